import PyProof.Rows.All
import Wide.All
import OpenK.AllK
import Wide.FinOn
import PyProof.NeData
import KE.KEqDict
import HandS.ForMost
import HandS.DictComp
import HandS.Walk
import HandS.TupAny
import HandS.Wide
import HandS.IsInst
import HandS.CallRecv
import HandS.Style
import HandS.Conv
import HandS.More
import HandS.NoneIn
import HandS.SetIn
import PySem.Challenge.RW_wholetongue_k48_whole_cells_as_they_are
import KE.GoesMore
import KE.GoesEnum
import HandS.SetFor
import HandS.Defaults
import HandS.Small
set_option Elab.async false
set_option maxRecDepth 100000
set_option linter.all false
set_option maxHeartbeats 4000000
/-! own rules of the layer that the claim needs -/
namespace K48
open PySem PySem.Spec PyProof.Rows L2
section
variable {X : Cx}
/-- floor division by any divisor that is not great -/
def CDvA (_ j : Int) : Prop := j ≠ 0 ∧ j.natAbs.log2 < 9000
theorem op_fdivA : OpR X (binaryOp .FloorDiv) (rI CDvA fun i j => .int (i.fdiv j)) :=
  opI fun _ _ _ _ _ _ _ c q =>
    floordiv_int c.1 q (.inl (PyProof.noPylong_of_log2 c.2))
/-- dicts of any sizes: unlike where the sizes are, alike where all is found -/
def rNeDB : R2 := fun x y H Q => ∃ a b ks ls, x = .ref a ∧ y = .ref b ∧
  H a = some (.dK ks) ∧ H b = some (.dK ls) ∧
  ((ks.length ≠ ls.length ∧ Q (.bl true) H) ∨
   (ks.length = ls.length ∧ (∀ p ∈ ks, valV ls p.1 = some p.2 ∧ flatB p.2 = true) ∧ Q (.bl false) H))
theorem op_neDB (hu : X.A.units < cLine) : OpR X (compareOp .NotEq) rNeDB := by
  intro pins s σ H x y v u Q I rx ry h
  obtain ⟨a, b, ks, ls, rfl, rfl, ea, eb, h | h⟩ := h
  · obtain rfl : v = Value.ref a := rx
    obtain rfl : u = Value.ref b := ry
    obtain ⟨_, ya, va, ra, da⟩ := (show ObjOk X.prog X.w H s.heap a (.dK ks) from I.hok a _ ea)
    obtain ⟨_, yb, vb, rb, db⟩ := (show ObjOk X.prog X.w H s.heap b (.dK ls) from I.hok b _ eb)
    have hl : va.length ≠ vb.length := by
      rw [← ra.length, ← rb.length]
      exact h.1
    exact PySem.W.keq_ne (knd := mixKind X.prog X.w) (r := false) ya yb da db hu
      (fun e => absurd e hl) (fin_bl I h.2 (by simp))
  · exact op_ne_dictA hu pins s σ H _ _ v u Q I rx ry
      ⟨a, b, ks, ls, rfl, rfl, ea, eb, h.1, h.2.1, h.2.2⟩
/-- a list against the empty one -/
def rNeNil (K : PySem.W.Frag) : R2 := fun x y H Q => ∃ a b xs, x = .ref a ∧ y = .ref b ∧ a ≠ b ∧
  SqL K H a xs ∧ SqL K H b [] ∧ Q (.bl (!xs.isEmpty)) H
theorem op_neNil (hu : X.A.units < cLine) : OpR X (compareOp .NotEq) (rNeNil X.K) := by
  intro pins s σ H x y v u Q I rx ry h
  obtain ⟨a, b, xs, rfl, rfl, hne, ha, hb, q⟩ := h
  obtain rfl : v = Value.ref a := rx
  obtain rfl : u = Value.ref b := ry
  obtain ⟨its, r, pl, _⟩ := I.list ha
  obtain ⟨its2, r2, pl2, _⟩ := I.list hb
  cases r2
  cases r with
  | nil =>
    exact SeqAt.RcNeAt.lists (e := fun _ => true) pl.isList pl2.isList rfl hu (fun j h1 => absurd h1 (by simp)) X.prog X.w X.xe _
      (fin_bl I q rfl)
  | cons p t =>
    exact SeqAt.RcNeAt.lists_lengths pl.isList pl2.isList (by simp) hu X.prog X.w X.xe _ (fin_bl I q rfl)
end
section
open PySem.SeqAt PySem.AutoSeq1 PySem.MeetsSeq PySem.MeetsSeq2 PySem.MeetsSeq3
theorem str_eq_no_dict (b : Str) (u : Tok) (l : Addr) (o : Obj) {es : Array DictEntry} {ep : Nat}
    (hc : o.cls = .type "dict") (hd : o.data = .dict es ep) :
    Meets (Builtin.«str.__eq__» ⟨[.str b u, .ref l], []⟩)
      (fun _ R s => s.heap.get? l = some o ∧ R (.ok (.ret .notImplemented)) s) :=
  .of_wp fun prog w A R s h => by
    obtain ⟨hp, g, d, tk, os⟩ := s
    obtain ⟨hl, h⟩ := h
    obtain ⟨cls, dd, data, sl⟩ := o
    simp only at hc hd
    subst hc hd
    wp_walk using wpAny_loadPart' hl, wpAny_load hl
    exact ⟨_, rfl, h⟩
theorem dict_eq_no_str (b : Str) (u : Tok) (l : Addr) (o : Obj) {es : Array DictEntry} {ep : Nat}
    (hc : o.cls = .type "dict") (hd : o.data = .dict es ep) :
    Meets (Builtin.«dict.__eq__» ⟨[.ref l, .str b u], []⟩)
      (fun _ R s => s.heap.get? l = some o ∧ R (.ok (.ret .notImplemented)) s) :=
  .of_wp fun prog w A R s h => by
    obtain ⟨hp, g, d, tk, os⟩ := s
    obtain ⟨hl, h⟩ := h
    obtain ⟨cls, dd, data, sl⟩ := o
    simp only at hc hd
    subst hc hd
    have f1 := F.sub_str_dict
    wp_walk using wpAny_loadPart' hl, wpAny_load hl
    exact ⟨_, rfl, h⟩
theorem eqAt_str_dict {A : Around} {s : Shared} {l : Addr} {o : Obj} {es : Array DictEntry} {ep : Nat} (b : Str) (u : Tok)
    (hl : s.heap.get? l = some o) (hc : o.cls = .type "dict") (hd : o.data = .dict es ep) (hu : A.units < cLine) : EqAt A s (.str b u) (.ref l) false := fun prog w E Q h => by
  unfold eqBool
  refine wpAny_holding ?_
  refine wpAny_ite_split (fun hab => absurd (eq_of_beq hab) nofun) (fun _ => ?_)
  refine wpAny_bind ?_
  exact rc_eq_decline_or (k := false) (typeIs_str s b u) ⟨_, hl, hc⟩ (by decide) F.sub_dict_str F.slot_str_eq F.slot_dict_eq_refl
    (fun _ hq => call_meets F.slot_str_eq (typeIs_str s b u) F.entry_str_eq (F.args_str_eq_2 _ _) (str_eq_no_dict b u l o hc hd) ⟨hl, hq⟩)
    (fun _ hq => call_meets F.slot_dict_eq_refl ⟨_, hl, hc⟩ F.entry_dict_eq (F.args_dict_eq_2 _ _) (dict_eq_no_str b u l o hc hd) ⟨hl, hq⟩)
    (fun _ hq => wpAny_of_eq (rfl : isSame (.str b u) (.ref l) = pure false) hq) (.inr hu) (wpAny_truthy_bool h)
end
section
variable {X : Cx}
/-- t against () -/
def rNeNilT (K : PySem.W.Frag) : R2 := fun x y H Q => ∃ a b xs, x = .ref a ∧ y = .ref b ∧
  SqT K H a xs ∧ SqT K H b [] ∧ Q (.bl (!xs.isEmpty)) H
theorem op_neNilT (hu : X.A.units < cLine) : OpR X (compareOp .NotEq) (rNeNilT X.K) := by
  intro pins s σ H x y v u Q I rx ry h
  obtain ⟨a, b, xs, rfl, rfl, ha, hb, q⟩ := h
  obtain rfl : v = Value.ref a := rx
  obtain rfl : u = Value.ref b := ry
  obtain ⟨its, r, pl, _⟩ := I.tuple ha
  obtain ⟨its2, r2, pl2, _⟩ := I.tuple hb
  cases r2
  refine SeqAt.RcNeAt.tuples (e := fun _ => true) pl pl2 hu (fun j h1 h2 => absurd h2 (by simp)) X.prog X.w X.xe _ ?_
  refine fin_bl I q ?_
  cases r with
  | nil => rfl
  | cons p t => simp
/-! ### x in ('a', 'b'): the display is not kept -/
def OkIn (H : Hp) (x : V) : Prop := flatV x = true ∨ ∃ d kvs, x = .ref d ∧ H d = some (.dK kvs)
def inS (x : V) (ws : List Str) : Bool := match x with
  | .str z => decide (z ∈ ws)
  | _ => false
theorem inV_strs (x : V) (f : flatV x = true) : ∀ ws : List Str, inV x (ws.map V.str) = inS x ws
  | [] => by cases x <;> rfl
  | w :: ws => by
    have ih := inV_strs x f ws
    unfold inV at ih ⊢
    rw [List.map_cons, List.any_cons, ih]
    cases x with
    | str z =>
      show ((w == z) || decide (z ∈ ws)) = decide (z ∈ w :: ws)
      by_cases e : w = z
      · subst e
        simp
      · have e2 : ¬ z = w := fun q => e q.symm
        simp [e, e2]
    | _ => rfl
abbrev tStrs (ws : List Str) : TA := fun _ H Q => Q (ws.map V.str) H
theorem pas_nil : PA X [] (tStrs []) := pa_nil
theorem pas_cons {w : Str} {es : List Expr} {ws : List Str} {j : Nat} {p : Pos} (h : PA X es (tStrs ws))
    (hs : starEach (.Constant (.str w) j p :: es) X.env = (false, eval (.Constant (.str w) j p) X.env) :: starEach es X.env := by rfl) :
    PA X (.Constant (.str w) j p :: es) (tStrs (w :: ws)) := pa_cons pe_str h hs
def tInT (ta : TE) (ws : List Str) : TT := fun σ H Q => ta σ H fun x H1 => OkIn H1 x ∧ Q (inS x ws) H1
theorem pt_inT {a : Expr} {ta : TE} {es : List Expr} {ws : List Str} {k : Nat} {p1 p2 : Pos} (hu : X.A.units + 1 < cLine) (ha : PE X a ta)
    (he : PA X es (tStrs ws)) (hl : ws.length ≤ 30) (hm : behindInMarks .In (.Tuple es k p1) = false := by rfl) :
    PT X (.Compare a [.In] [.Tuple es k p1] p2) (tInT ta ws) := by
  refine ⟨fun pins s σ H Q I h => ?_⟩
  refine wpAny_isTrue_Compare1 (thn (ha.run pins s σ H _ I h) fun v s1 ⟨x, H1, I1, r1, ok, q⟩ => ?_) hm
  refine wpAny_Tuple_spliced (thn (he.run p1 pins s1 σ H1 (fun vs H2 => vs = ws.map V.str ∧ H2 = H1) I1 ⟨rfl, rfl⟩) fun us s2 ⟨vs, H2, I2, r2, ev, eH⟩ => ?_)
  subst ev eH
  have ll : us.length = ws.length := by rw [← r2.length, List.length_map]
  refine ⟨by rw [ll]; exact Nat.le_trans hl (by decide), ?_⟩
  have I3 : Inv X pins σ H2 { s2 with heap := s2.heap.push { cls := .type "tuple", data := .seq us.toArray } } :=
    I2.kept (t' := s2.toks) fun b o e => Heap.get?_push_of_some _ e
  have fs : (ws.map V.str).all flatV = true := by
    rw [List.all_eq_true]
    intro y hy
    obtain ⟨z, _, rfl⟩ := List.mem_map.mp hy
    rfl
  rcases ok with fx | ⟨d, kvs, rfl, hd⟩
  · refine SeqAt.in_tupleAt (eqU x) (IsTup.new s2.heap _) (fun w' hw => mem_eqAt r1 fx r2 fs w' (by simpa using hw)) ?_
    refine wpAny_truthy_bool ⟨H2, I3, ?_⟩
    rw [show us.toArray.any (eqU x) = us.any (eqU x) by simp, any_eqU r2 fs]
    show Q (inV x (ws.map V.str)) H2
    rw [inV_strs x fx ws]
    exact q
  · obtain rfl : v = Value.ref d := r1
    obtain ⟨_, _, vs2, _, o, es2, ep, eo, hcl, hcd, _⟩ := (show ObjOk X.prog X.w H2 _ d (.dK kvs) from I3.hok d _ hd)
    refine SeqAt.in_tupleAt (fun _ => false) (IsTup.new s2.heap _) (fun w' hw => ?_) ?_
    · have hw' : w' ∈ us := by simpa using hw
      obtain ⟨n, hn⟩ := List.getElem?_of_mem hw'
      have hz : n < (ws.map V.str).length := by
        rw [r2.length]
        exact (List.getElem?_eq_some_iff.mp hn).1
      obtain ⟨u', h1, h2⟩ := r2.get (List.getElem?_eq_getElem hz)
      rw [hn] at h1
      cases h1
      rw [List.getElem_map] at h2
      obtain ⟨t, rfl⟩ := h2
      exact eqAt_str_dict _ _ eo hcl.1 hcd hu
    · refine wpAny_truthy_bool ⟨H2, I3, ?_⟩
      have ea : us.toArray.any (fun _ => false) = false := by simp
      rw [ea]
      exact q
end
end K48
set_option maxHeartbeats 4000000
/-! the text by places, the data, what stands in the heap -/
namespace K48
open PySem L2
def topS (i : Nat) : Stmt :=
  PySem.Challenge.pw_wholetongue_k48_whole_cells_as_they_are.main.body.getD i (.Pass ⟨0, 0, 0, 0⟩)

/-! ### defs of the text, as they are called -/
def Dfn (P : Program) (w : World) (K : PySem.W.Frag) (mg : Str → Option Value) (base : Heap) (x : Str) (k : Nat) (ps : List Str) (sp : Sp) : Prop :=
  ∃ (f : Addr) (fd : FuncData), FnOk P w K mg base CX0 k f fd ps sp ∧ mg x = some (.ref f) ∧ PySem.W.keepIn K (.ref f) = true ∧ Binds K fd ps []
theorem pe_callD {X : Cx} {k : Nat} {ps : List Str} {sp : Sp} {x : Str} {p pos : Pos} {e : Expr} {es : List Expr} {t : TA}
    (D : Dfn X.prog X.w X.K X.mg X.base x k ps sp) (hr : Room k X.A) (hg : Gl X x) (ha : PA X (e :: es) t)
    (hdb : (x == ("__debug__" : Str)) = false := by decide)
    (he : starEach (e :: es) X.env = (false, eval e X.env) :: starEach es X.env := by rfl)
    (hpl : (backTo pos (starEach es X.env)).any (·.1) = false := by rfl) :
    PE X (.Call (.Name x p) (e :: es) [] pos) (tCall sp [] E0 t) := by
  obtain ⟨f, fd, F, hm, hk, hb⟩ := D
  exact pe_call F hr hg hm hk hb .nil pass0 ha hdb he hpl
theorem pe_gref {X : Cx} {x : Str} {a : Addr} {pos : Pos} (hg : Gl X x) (hm : X.mg x = some (.ref a))
    (hd : (x == ("__debug__" : Str)) = false := by decide) : PE X (.Name x pos) (tC (.ref a)) := pe_glob hg hm rfl hd
/-- a def of the module as it stands behind the top -/
def Top (K : PySem.W.Frag) (mg : Str → Option Value) (x : Str) (st : Stmt) : Prop :=
  ∃ (f : Addr) (fd : FuncData), Fun K x x st f fd ∧ mg x = some (.ref f)
/-- the built-ins are as they are, the two tables of words -/
structure Blt (K : PySem.W.Frag) (mg : Str → Option Value) (aO aL : Addr) : Prop where
  len : mg "len" = none
  int : mg "int" = none
  list : mg "list" = none
  tuple : mg "tuple" = none
  dict : mg "dict" = none
  isinstance : mg "isinstance" = none
  str : mg "str" = none
  range : mg "range" = none
  enumerate : mg "enumerate" = none
  zip : mg "zip" = none
  OPS : mg "OPS" = some (.ref aO)
  LAYING : mg "LAYING" = some (.ref aL)
  ops : ∀ H, SqT K H aO (([("add" : Str), "take", "times", "over", "rest", "less", "same"] : List Str).map V.str)
  laying : ∀ H, SqT K H aL (([("add" : Str), "take", "times", "over", "rest", "less", "same", "put", "copy", "fetch", "call"] : List Str).map V.str)

/-! ### tests whose answer is known -/
theorem iT {b : Bool} {A B : Prop} (h : b = true) (x : A) : if b = true then A else B := by rw [if_pos h]; exact x
theorem iF {b : Bool} {A B : Prop} (h : b = false) (x : B) : if b = true then A else B := by
  rw [if_neg (by rw [h]; exact Bool.false_ne_true)]; exact x
theorem iB {b : Bool} {A B : Prop} (h1 : b = true → A) (h2 : b = false → B) : if b = true then A else B := by
  cases b with
  | false => exact iF rfl (h2 rfl)
  | true => exact iT rfl (h1 rfl)

/-- a cut behind a statement -/
theorem seq_cut {t u : TS} {D : Ends} {σ : St} {H : Hp} (N : St → Hp → Prop) (h1 : ∀ σ' H', N σ' H' → u D σ' H')
    (h2 : ∀ nx : St → Hp → Prop, (∀ σ' H', N σ' H' → nx σ' H') → t { D with nx := nx } σ H) : tSeq t u D σ H := h2 (u D) h1

/-! ### middle rows -/
inductive Op where
  | add | take | times | over | rest | less | same
  deriving DecidableEq
def Op.name : Op → Str
  | .add => "add"
  | .take => "take"
  | .times => "times"
  | .over => "over"
  | .rest => "rest"
  | .less => "less"
  | .same => "same"
inductive MR where
  | op (o : Op) (c d e : Int)
  | put (c n : Int)
  | copy (c d : Int)
  | fetch (c : Int) (f k : Str)
  | lay (k : Str) (c : Int)
  | say (k : Str) (c : Int)
  | call (c : Option Int) (f n : Str) (as : List Int)
  | beg
  | label (k : Int)
  | go (k : Int)
  | unl (c k : Int)
  | give (c : Option Int)
  | nothing
  deriving DecidableEq
def oV : Option Int → V
  | none => .non
  | some c => .int c
def MR.word : MR → Str
  | .op o _ _ _ => o.name
  | .put _ _ => "put"
  | .copy _ _ => "copy"
  | .fetch _ _ _ => "fetch"
  | .lay _ _ => "lay"
  | .say _ _ => "say"
  | .call _ _ _ _ => "call"
  | .beg => "begin"
  | .label _ => "label"
  | .go _ => "go"
  | .unl _ _ => "unless"
  | .give _ => "give"
  | .nothing => "nothing"
/-- the row's things behind its word, ahead of its place; b: where a call's cells lie -/
def MR.rest (b : Addr) : MR → List V
  | .op _ c d e => [.int c, .int d, .int e]
  | .put c n => [.int c, .int n]
  | .copy c d => [.int c, .int d]
  | .fetch c f k => [.int c, .str f, .str k]
  | .lay k c => [.str k, .int c]
  | .say k c => [.str k, .int c]
  | .call c f n _ => [oV c, .str f, .str n, .ref b]
  | .beg => []
  | .label k => [.int k]
  | .go k => [.int k]
  | .unl c k => [.int c, .int k]
  | .give c => [oV c]
  | .nothing => []
def MR.pre (m : MR) (b : Addr) : List V := .str m.word :: m.rest b
def MR.aux (H : Hp) (b : Addr) : MR → Prop
  | .call _ _ _ as => H b = some (.tup (as.map V.int))
  | _ => True
def RowV (H : Hp) (v : V) (m : MR) : Prop := ∃ a b p, v = .ref a ∧ H a = some (.tup (m.pre b ++ [p])) ∧ m.aux H b
def MR.reads : MR → List Int
  | .op _ _ d e => [d, e]
  | .copy _ d => [d]
  | .lay _ c => [c]
  | .say _ c => [c]
  | .unl c _ => [c]
  | .call _ _ _ as => as
  | .give (some c) => [c]
  | _ => []
def MR.lays : MR → Option Int
  | .op _ c _ _ => some c
  | .put c _ => some c
  | .copy c _ => some c
  | .fetch c _ _ => some c
  | .call c _ _ _ => c
  | _ => none

theorem atP (m : MR) (b : Addr) : atI (m.pre b) 0 = some (.str m.word) := by cases m <;> rfl
theorem at0 (m : MR) (b : Addr) (p : V) : atI (m.pre b ++ [p]) 0 = some (.str m.word) := by cases m <;> rfl

/-! ### machine rows -/
inductive KR where
  | row (k : Int)
  | nothing (k : Int)
  | push (n k : Int)
  | load (c k : Int)
  | store (c k : Int)
  | fetch (f n : Str) (k : Int)
  | lay (n : Str) (k : Int)
  | op (o : Op) (k : Int)
  | jump (at_ k : Int)
  | unl (at_ k : Int)
  | call (f n : Str) (many k : Int)
  | give (many k : Int)
  | say (kd : Str) (k : Int)
  deriving DecidableEq
def KR.word : KR → Str
  | .row _ => "row"
  | .nothing _ => "nothing"
  | .push _ _ => "push"
  | .load _ _ => "load"
  | .store _ _ => "store"
  | .fetch _ _ _ => "fetch"
  | .lay _ _ => "lay"
  | .op o _ => o.name
  | .jump _ _ => "jump"
  | .unl _ _ => "unless"
  | .call _ _ _ _ => "call"
  | .give _ _ => "give"
  | .say _ _ => "say"
def KR.k : KR → Int
  | .row k => k
  | .nothing k => k
  | .push _ k => k
  | .load _ k => k
  | .store _ k => k
  | .fetch _ _ k => k
  | .lay _ k => k
  | .op _ k => k
  | .jump _ k => k
  | .unl _ k => k
  | .call _ _ _ k => k
  | .give _ k => k
  | .say _ k => k
def KR.rest : KR → List V
  | .push n _ => [.int n]
  | .load c _ => [.int c]
  | .store c _ => [.int c]
  | .fetch f n _ => [.str f, .str n]
  | .lay n _ => [.str n]
  | .jump a _ => [.int a]
  | .unl a _ => [.int a]
  | .call f n m _ => [.str f, .str n, .int m]
  | .give m _ => [.int m]
  | .say s _ => [.str s]
  | _ => []
def KR.tup (r : KR) : List V := (.str r.word :: r.rest) ++ [.int r.k]
theorem kat0 (r : KR) : atI r.tup 0 = some (.str r.word) := by cases r <;> rfl
def KRowV (H : Hp) (v : V) (r : KR) : Prop := ∃ a, v = .ref a ∧ H a = some (.tup r.tup)

/-! ### heaps -/
def TupStay (H H' : Hp) : Prop := ∀ b xs, H b = some (.tup xs) → H' b = some (.tup xs)
theorem TupStay.refl (H : Hp) : TupStay H H := fun _ _ h => h
theorem TupStay.trans {H H1 H2 : Hp} (a : TupStay H H1) (b : TupStay H1 H2) : TupStay H H2 := fun c xs h => b c xs (a c xs h)
theorem _root_.L2.Same.tups {H H' : Hp} (s : Same H H') : TupStay H H' := fun b _ h => s b _ h
theorem same_new {H : Hp} {p : Addr} {o : HO} (h : H p = none) : Same H (upd H p o) := fun b u e => by
  rw [upd_ne (ne_of_none e h)]
  exact e
theorem MR.aux_mono {H H' : Hp} (s : TupStay H H') {b : Addr} : ∀ {m : MR}, m.aux H b → m.aux H' b
  | .call _ _ _ _, h => s _ _ h
  | .op _ _ _ _, _ => trivial
  | .put _ _, _ => trivial
  | .copy _ _, _ => trivial
  | .fetch _ _ _, _ => trivial
  | .lay _ _, _ => trivial
  | .say _ _, _ => trivial
  | .beg, _ => trivial
  | .label _, _ => trivial
  | .go _, _ => trivial
  | .unl _ _, _ => trivial
  | .give _, _ => trivial
  | .nothing, _ => trivial
theorem RowV.mono {H H' : Hp} (s : TupStay H H') {v : V} {m : MR} (h : RowV H v m) : RowV H' v m := by
  obtain ⟨a, b, p, e, h1, h2⟩ := h
  exact ⟨a, b, p, e, s _ _ h1, MR.aux_mono s h2⟩
theorem KRowV.mono {H H' : Hp} (s : TupStay H H') {v : V} {m : KR} (h : KRowV H v m) : KRowV H' v m := by
  obtain ⟨a, e, h1⟩ := h
  exact ⟨a, e, s _ _ h1⟩
theorem rows_mono {H H' : Hp} (s : TupStay H H') {vs : List V} {rs : List MR} (h : Paired (RowV H) vs rs) : Paired (RowV H') vs rs :=
  Paired.mapP h fun _ _ x => RowV.mono s x
theorem krows_mono {H H' : Hp} (s : TupStay H H') {vs : List V} {rs : List KR} (h : Paired (KRowV H) vs rs) : Paired (KRowV H') vs rs :=
  Paired.mapP h fun _ _ x => KRowV.mono s x
theorem _root_.L2.Same.sqT {K : PySem.W.Frag} {H H' : Hp} {a : Addr} {xs : List V} (e : Same H H') (h : SqT K H a xs) : SqT K H' a xs := by
  rcases h with (h | ⟨o, h⟩) | h
  · exact .inl (.inl (e _ _ h))
  · exact .inl (.inr ⟨o, e _ _ h⟩)
  · exact .inr h
theorem Same.dK_ne {H : Hp} {a b : Addr} {o : HO} (h : H a = some o) (h2 : H b = none) : a ≠ b := ne_of_none h h2
/-! ### readings in short -/
theorem ixT {K : PySem.W.Frag} {H : Hp} {a : Addr} {xs : List V} {i : Int} {v : V} {Q : VK} (h : H a = some (.tup xs)) (e : atI xs i = some v)
    (q : Q v H) : rIxT K (.ref a) (.int i) H Q := ⟨a, xs, i, v, rfl, rfl, SqT.of h, e, q⟩
theorem ixL {K : PySem.W.Frag} {H : Hp} {a : Addr} {xs : List V} {i : Int} {v : V} {Q : VK} (h : H a = some (.lst xs)) (e : atI xs i = some v)
    (q : Q v H) : rIxL K (.ref a) (.int i) H Q := ⟨a, xs, i, v, rfl, rfl, SqL.of h, e, q⟩
theorem eqS {x y : Str} {H : Hp} {Q : VK} (q : Q (.bl (decide (V.str x = V.str y))) H) : rEq (.str x) (.str y) H Q := ⟨rfl, q⟩
theorem sz {n : Nat} (h : n ≤ 1000000) : n ≤ sizeLine := Nat.le_trans h (by decide)
theorem szl {n : Nat} (h : n ≤ 1000000) : n < sizeLine := Nat.lt_of_le_of_lt h (by decide)
end K48
set_option maxHeartbeats 4000000
/-! read_by, laid_by -/
namespace K48
open PySem L2
abbrev opsV : List V := ([("add" : Str), "take", "times", "over", "rest", "less", "same"] : List Str).map V.str
abbrev layingV : List V := ([("add" : Str), "take", "times", "over", "rest", "less", "same", "put", "copy", "fetch", "call"] : List Str).map V.str
section
variable {P : Program} {w : World} {K : PySem.W.Frag} {mg : Str → Option Value} {base : Heap} {aO aL : Addr}
def spReadBy : Sp := fun vs H Q _ => ∃ v m, vs = [v] ∧ RowV H v m ∧
  ∀ H' p, Same H H' → H p = none → H' p = some (.lst (m.reads.map V.int)) → Q (.ref p) H'
def spLaidBy : Sp := fun vs H Q _ => ∃ v m, vs = [v] ∧ RowV H v m ∧ Q (oV m.lays) H
theorem scReadBy : FnScope ["row"] ["row"] (defScope (topS 3)) := ⟨rfl, rfl, rfl, by decide +kernel, rfl, by decide +kernel, by decide +kernel⟩
theorem fn_read_by {f : Addr} {fd : FuncData} (F : Fun K "read_by" "read_by" (topS 3) f fd) (T : Blt K mg aO aL) :
    FnOk P w K mg base CX0 1 f fd ["row"] spReadBy := by
  have sc := scReadBy
  refine F.ok sc (fun vs H Q E h => ?_) (fun cdv A outer s H vs Q E hr h => ?_)
  · obtain ⟨v, m, rfl, _⟩ := h
    rfl
  · obtain ⟨v, m, rfl, ⟨a, b, p, rfl, ha, hb⟩, k⟩ := h
    have hu := hu_of hr
    refine ⟨_,
(pss_cons (ps_if (pt_cmpR op_in_seq (pe_ix ix_tup (pv 0) pe_int (fun _ _ => rfl)) (pe_gref (by rfl) T.OPS) (by rfl))
(pss_one (ps_ret (pe_lst (pa_cons (pe_ix ix_tup (pv 0) pe_int (fun _ _ => rfl)) (pa_cons (pe_ix ix_tup (pv 0) pe_int (fun _ _ => rfl)) pa_nil)))))
pss_nil)
(pss_cons (ps_if (pt_inT hu (pe_ix ix_tup (pv 0) pe_int (fun _ _ => rfl)) (pas_cons (pas_cons (pas_cons pas_nil))) (by decide))
(pss_one (ps_ret (pe_lst (pa_cons (pe_ix ix_tup (pv 0) pe_int (fun _ _ => rfl)) pa_nil))))
pss_nil)
(pss_cons (ps_if (pt_cmpR op_eq (pe_ix ix_tup (pv 0) pe_int (fun _ _ => rfl)) pe_str (nomark _))
(pss_one (ps_ret (pe_lst (pa_cons (pe_ix ix_tup (pv 0) pe_int (fun _ _ => rfl)) pa_nil))))
pss_nil)
(pss_cons (ps_if (pt_cmpR op_eq (pe_ix ix_tup (pv 0) pe_int (fun _ _ => rfl)) pe_str (nomark _))
(pss_one (ps_ret (pe_callTy (call_list_of) (by rfl) T.list (by decide +kernel) (pa_cons (pe_ix ix_tup (pv 0) pe_int (fun _ _ => rfl)) pa_nil))))
pss_nil)
(pss_one (ps_ret (pe_ifExp (PW.pt (pw_and (pt_cmpR op_eq (pe_ix ix_tup (pv 0) pe_int (fun _ _ => rfl)) pe_str (nomark _)) (pw_and1 (pt_cmpR op_notN (pe_ix ix_tup (pv 0) pe_int (fun _ _ => rfl)) pe_non (nomark _))))) (pe_lst (pa_cons (pe_ix ix_tup (pv 0) pe_int (fun _ _ => rfl)) pa_nil)) (pe_lst pa_nil))))))))
    , ?_⟩
    have one : ∀ {c : V}, [c].length ≤ sizeLine := by intro c; show 1 ≤ sizeLine; decide
    refine ⟨_, rfl, _, _, _, _, rfl, rfl, SqT.of ha, (at0 m b p), _, _, rfl, .inr (T.ops H), rfl, by decide, _, rfl, ?_⟩
    by_cases ho : ∃ o c d e, m = .op o c d e
    · obtain ⟨o, c, d, e, rfl⟩ := ho
      refine iT (by cases o <;> rfl) ?_
      exact ⟨_, rfl, _, _, _, _, rfl, rfl, SqT.of ha, rfl, _, rfl, _, _, _, _, rfl, rfl, SqT.of ha, rfl, (by show 2 ≤ sizeLine; decide), fun q hq => k _ _ (same_new hq) hq upd_same⟩
    refine iF (by cases m <;> first | rfl | exact absurd ⟨_, _, _, _, rfl⟩ ho) ?_
    refine ⟨_, rfl, _, _, _, _, rfl, rfl, SqT.of ha, (at0 m b p), .inl rfl, ?_⟩
    cases m with
    | op o c d e => exact absurd ⟨_, _, _, _, rfl⟩ ho
    | copy c d => exact iT (by rfl) ⟨_, rfl, _, _, _, _, rfl, rfl, SqT.of ha, rfl, one, fun q hq => k _ _ (same_new hq) hq upd_same⟩
    | lay c d => exact iT (by rfl) ⟨_, rfl, _, _, _, _, rfl, rfl, SqT.of ha, rfl, one, fun q hq => k _ _ (same_new hq) hq upd_same⟩
    | say c d => exact iT (by rfl) ⟨_, rfl, _, _, _, _, rfl, rfl, SqT.of ha, rfl, one, fun q hq => k _ _ (same_new hq) hq upd_same⟩
    | unl c d =>
      refine iF (by rfl) ⟨_, rfl, _, _, _, _, rfl, rfl, SqT.of ha, rfl, rfl, _, rfl, ?_⟩
      exact iT (by rfl) ⟨_, rfl, _, _, _, _, rfl, rfl, SqT.of ha, rfl, one, fun q hq => k _ _ (same_new hq) hq upd_same⟩
    | call c f' n as =>
      refine iF (by rfl) ⟨_, rfl, _, _, _, _, rfl, rfl, SqT.of ha, rfl, rfl, _, rfl, ?_⟩
      refine iF (by rfl) ⟨_, rfl, _, _, _, _, rfl, rfl, SqT.of ha, rfl, rfl, _, rfl, ?_⟩
      refine iT (by rfl) ⟨_, rfl, _, _, _, _, rfl, rfl, SqT.of ha, rfl, _, _, rfl, .inr (SqT.of hb), fun q hq => k _ _ (same_new hq) hq upd_same⟩
    | give c =>
      refine iF (by rfl) ⟨_, rfl, _, _, _, _, rfl, rfl, SqT.of ha, rfl, rfl, _, rfl, ?_⟩
      refine iF (by rfl) ⟨_, rfl, _, _, _, _, rfl, rfl, SqT.of ha, rfl, rfl, _, rfl, ?_⟩
      refine iF (by rfl) ⟨_, rfl, _, _, _, _, rfl, rfl, SqT.of ha, rfl, rfl, _, rfl, ?_⟩
      refine iT (by rfl) ⟨_, rfl, _, _, _, _, rfl, rfl, SqT.of ha, rfl, rfl, _, rfl, ?_⟩
      cases c with
      | none => exact iF (by rfl) ⟨Nat.zero_le _, fun q hq => k _ _ (same_new hq) hq upd_same⟩
      | some c => exact iT (by rfl) ⟨_, rfl, _, _, _, _, rfl, rfl, SqT.of ha, rfl, one, fun q hq => k _ _ (same_new hq) hq upd_same⟩
    | _ =>
      refine iF (by rfl) ⟨_, rfl, _, _, _, _, rfl, rfl, SqT.of ha, rfl, rfl, _, rfl, ?_⟩
      refine iF (by rfl) ⟨_, rfl, _, _, _, _, rfl, rfl, SqT.of ha, rfl, rfl, _, rfl, ?_⟩
      refine iF (by rfl) ⟨_, rfl, _, _, _, _, rfl, rfl, SqT.of ha, rfl, rfl, _, rfl, ?_⟩
      refine iF (by rfl) ⟨Nat.zero_le _, fun q hq => k _ _ (same_new hq) hq upd_same⟩
theorem scLaidBy : FnScope ["row"] ["row"] (defScope (topS 4)) := ⟨rfl, rfl, rfl, by decide +kernel, rfl, by decide +kernel, by decide +kernel⟩
theorem fn_laid_by {f : Addr} {fd : FuncData} (F : Fun K "laid_by" "laid_by" (topS 4) f fd) (T : Blt K mg aO aL) :
    FnOk P w K mg base CX0 1 f fd ["row"] spLaidBy := by
  have sc := scLaidBy
  refine F.ok sc (fun vs H Q E h => ?_) (fun cdv A outer s H vs Q E hr h => ?_)
  · obtain ⟨v, m, rfl, _⟩ := h
    rfl
  · obtain ⟨v, m, rfl, ⟨a, b, p, rfl, ha, hb⟩, k⟩ := h
    refine ⟨_,
(pss_one (ps_ret (pe_ifExp (pt_cmpR op_in_seq (pe_ix ix_tup (pv 0) pe_int (fun _ _ => rfl)) (pe_gref (by rfl) T.LAYING) (by rfl)) (pe_ix ix_tup (pv 0) pe_int (fun _ _ => rfl)) pe_non)))
    , ?_⟩
    refine ⟨_, rfl, _, _, _, _, rfl, rfl, SqT.of ha, (at0 m b p), _, _, rfl, .inr (T.laying H), rfl, by decide, _, rfl, ?_⟩
    cases m with
    | op o c d e => exact iT (by cases o <;> rfl) ⟨_, rfl, _, _, _, _, rfl, rfl, SqT.of ha, rfl, k⟩
    | put c d => exact iT (by rfl) ⟨_, rfl, _, _, _, _, rfl, rfl, SqT.of ha, rfl, k⟩
    | copy c d => exact iT (by rfl) ⟨_, rfl, _, _, _, _, rfl, rfl, SqT.of ha, rfl, k⟩
    | fetch c d e => exact iT (by rfl) ⟨_, rfl, _, _, _, _, rfl, rfl, SqT.of ha, rfl, k⟩
    | call c d e g => exact iT (by rfl) ⟨_, rfl, _, _, _, _, rfl, rfl, SqT.of ha, rfl, k⟩
    | _ => exact iF (by rfl) k
end
end K48
set_option maxHeartbeats 4000000
/-! the draws: _law_taken -/
namespace K48
open PySem L2
/-- the script: locked, or a list of the module -/
def FrzL (K : PySem.W.Frag) (H : Hp) (a : Addr) (xs : List V) : Prop :=
  (∃ o, H a = some (.frz o (.lst xs))) ∨
    ∃ (o : Obj) (its : Array Value) (n : Nat), K.lookup a = some o ∧ o.cls = .type "list" ∧ o.dict = none ∧ o.data = .seq its n ∧ its.size ≤ sizeLine ∧ Vals xs its.toList
theorem FrzL.sq {K : PySem.W.Frag} {H : Hp} {a : Addr} {xs : List V} (h : FrzL K H a xs) : SqL K H a xs := by
  rcases h with h | h
  · exact .inl (.inr h)
  · exact .inr h
def FrzStay (H H' : Hp) : Prop := ∀ b o u, H b = some (.frz o u) → H' b = some (.frz o u)
theorem FrzL.mono {K : PySem.W.Frag} {H H' : Hp} {a : Addr} {xs : List V} (h : FrzL K H a xs) (s : FrzStay H H') : FrzL K H' a xs := by
  rcases h with ⟨o, h⟩ | h
  · exact .inl ⟨o, s _ _ _ h⟩
  · exact .inr h
theorem frz_upd {H : Hp} {r : Addr} {xs : List V} {o : HO} (h : H r = some (.lst xs)) : FrzStay H (upd H r o) := fun b p u e => by
  rw [upd_ne (ne_of e h (by intro z; cases z))]
  exact e
/-- the drawing row at r -/
def RowAt (K : PySem.W.Frag) (H : Hp) (r : Addr) : Prop := ∃ (sc : Addr) (ns : List Int) (p sd bg : Int),
  H r = some (.lst [.ref sc, .int p, .int sd, .int bg]) ∧ FrzL K H sc (ns.map V.int) ∧ ns.length ≤ 63 ∧ 0 ≤ p ∧ (0 ≤ sd ∧ sd < 2147483647) ∧ 0 ≤ bg
def Off (r : Addr) (H H' : Hp) : Prop := ∀ b, b ≠ r → H' b = H b
theorem off_upd {H : Hp} {r : Addr} {o : HO} : Off r H (upd H r o) := fun _ h => upd_ne h
theorem off_upd2 {H : Hp} {r : Addr} {o o2 : HO} : Off r H (upd (upd H r o) r o2) := fun _ h => by rw [upd_ne h, upd_ne h]
theorem off_upd3 {H : Hp} {r : Addr} {o o2 o3 : HO} : Off r H (upd (upd (upd H r o) r o2) r o3) := fun _ h => by rw [upd_ne h, upd_ne h, upd_ne h]
section
variable {P : Program} {w : World} {K : PySem.W.Frag} {mg : Str → Option Value} {base : Heap} {aO aL : Addr}
def spTaken (K : PySem.W.Frag) : Sp := fun vs H Q _ => ∃ (r : Addr) (many : Int), vs = [.ref r, .int many] ∧ RowAt K H r ∧ 0 < many ∧ many < 1073741824 ∧
  ∀ (k : Int) (H' : Hp), 0 ≤ k → k < many → Off r H H' → RowAt K H' r → Q (.int k) H'
theorem scTaken : FnScope ["_law_row", "_law_many", "_law_cell", "_law_found"] ["_law_row", "_law_many"] (defScope (topS 11)) := ⟨rfl, rfl, rfl, by decide +kernel, rfl, by decide +kernel, by decide +kernel⟩
theorem fn_taken {f : Addr} {fd : FuncData} (F : Fun K "_law_taken" "_law_taken" (topS 11) f fd) (T : Blt K mg aO aL) :
    FnOk P w K mg base CX0 1 f fd ["_law_row", "_law_many"] (spTaken K) := by
  have sc := scTaken
  refine F.ok sc (fun vs H Q E h => ?_) (fun cdv A outer s H vs Q E hr h => ?_)
  · obtain ⟨r, many, rfl, _⟩ := h
    rfl
  · obtain ⟨r, many, rfl, ⟨sa, ns, p, sd, bg, hR, hS, hn, p0, sd0, bg0⟩, m0, m1, k⟩ := h
    refine ⟨_,
(pss_cons (ps_if (pt_cmpR op_gt (pe_ix ix_list (pv 0) pe_int (fun _ _ => rfl)) pe_int (nomark _))
(pss_cons (ps_set (i := 3) sc.nd rfl (Or.inl rfl) (pe_op op_mod (pe_ix ix_list (pv 0) pe_int (fun _ _ => rfl)) (pv 1)))
(pss_cons (ps_asg (pe_op op_fdiv (pe_ix ix_list (pv 0) pe_int (fun _ _ => rfl)) (pv 1)) (pg_sub (pv 0) pe_int set_list))
(pss_one (ps_ret (pv 3)))))
pss_nil)
(pss_cons (ps_asg (pe_op op_add (pe_ix ix_list (pv 0) pe_int (fun _ _ => rfl)) pe_int) (pg_sub (pv 0) pe_int set_list))
(pss_cons (ps_if (pt_cmpR op_gt (pe_ix ix_list (pv 0) pe_int (fun _ _ => rfl)) (pe_callB (call_len) (by rfl) T.len PySem.boot_len (pa_cons (pe_ix ix_list (pv 0) pe_int (fun _ _ => rfl)) pa_nil)) (nomark _))
(pss_cons (ps_asg (pe_op op_mod (pe_op op_add (pe_op op_mul (pe_ix ix_list (pv 0) pe_int (fun _ _ => rfl)) pe_int) pe_int) pe_int) (pg_sub (pv 0) pe_int set_list))
(pss_one (ps_ret (pe_op op_mod (pe_op op_fdiv (pe_ix ix_list (pv 0) pe_int (fun _ _ => rfl)) pe_int) (pv 1)))))
pss_nil)
(pss_cons (ps_set (i := 2) sc.nd rfl (Or.inl rfl) (pe_ix ix_list (pe_ix ix_list (pv 0) pe_int (fun _ _ => rfl)) (pe_op op_sub (pe_ix ix_list (pv 0) pe_int (fun _ _ => rfl)) pe_int) (fun _ _ => rfl)))
(pss_cons (ps_asg (pe_op op_mod (pe_op op_add (pe_op op_add (pe_op op_mul (pe_ix ix_list (pv 0) pe_int (fun _ _ => rfl)) pe_int) (pv 2)) pe_int) pe_int) (pg_sub (pv 0) pe_int set_list))
(pss_cons (ps_if (pt_cmpR op_ge (pv 2) (pe_op op_pow pe_int pe_int) (nomark _))
(pss_one (ps_asg (pe_op op_fdiv (pv 2) (pv 1)) (pg_sub (pv 0) pe_int set_list)))
pss_nil)
(pss_one (ps_ret (pe_op op_mod (pv 2) (pv 1))))))))))
    , ?_⟩
    refine ⟨_, rfl, _, _, _, _, rfl, rfl, SqL.of hR, rfl, _, _, rfl, rfl, _, rfl, ?_⟩
    refine iB (fun e => ?_) (fun e => ?_)
    · refine ⟨_, rfl, _, _, _, _, rfl, rfl, SqL.of hR, rfl, _, rfl, _, _, rfl, rfl, m0, ?_⟩
      refine ⟨_, rfl, _, _, _, _, rfl, rfl, SqL.of hR, rfl, _, rfl, _, _, rfl, rfl, ⟨m0, m1⟩, _, rfl, r, _, _, 3, rfl, rfl, hR, rfl, ?_⟩
      refine ⟨_, rfl, k _ _ (Int.emod_nonneg _ (by omega)) (Int.emod_lt_of_pos _ m0) off_upd ⟨sa, ns, p, sd, bg / many, upd_same, hS.mono (frz_upd hR), hn, p0, sd0, ?_⟩⟩
      exact Int.ediv_nonneg bg0 (by omega)
    · refine ⟨_, rfl, _, _, _, _, rfl, rfl, SqL.of hR, rfl, _, _, rfl, rfl, _, rfl, r, _, _, 1, rfl, rfl, hR, rfl, ?_⟩
      have hR1 : upd H r (.lst [.ref sa, .int (p + 1), .int sd, .int bg]) r = some (.lst [.ref sa, .int (p + 1), .int sd, .int bg]) := upd_same
      have hS1 : FrzL K (upd H r (.lst [.ref sa, .int (p + 1), .int sd, .int bg])) sa (ns.map V.int) := hS.mono (frz_upd hR)
      refine ⟨_, rfl, _, _, _, _, rfl, rfl, SqL.of hR1, rfl, _, rfl, _, _, _, _, rfl, rfl, SqL.of hR1, rfl, _, ns.length, rfl, .inl ⟨_, hS1.sq, (List.length_map _).symm⟩, _, _, rfl, rfl, _, rfl, ?_⟩
      have sd2 : ∀ z : Int, 0 ≤ z % 2147483647 ∧ z % 2147483647 < 2147483647 := fun z => ⟨Int.emod_nonneg _ (by decide), Int.emod_lt_of_pos _ (by decide)⟩
      refine iB (fun e1 => ?_) (fun e1 => ?_)
      · refine ⟨_, rfl, _, _, _, _, rfl, rfl, SqL.of hR1, rfl, _, _, rfl, rfl, .inr ⟨by decide, by decide⟩, _, _, rfl, rfl, _, _, rfl, rfl, (by show (0 : Int) < 2147483647; decide), _, rfl, r, _, _, 2, rfl, rfl, hR1, rfl, ?_⟩
        refine ⟨_, rfl, _, _, _, _, rfl, rfl, SqL.of upd_same, rfl, _, _, rfl, rfl, ⟨by decide, by decide⟩, _, rfl, _, _, rfl, rfl, m0, ?_⟩
        exact k _ _ (Int.emod_nonneg _ (by omega)) (Int.emod_lt_of_pos _ m0) off_upd2 ⟨sa, ns, p + 1, _, bg, upd_same, hS1.mono (frz_upd hR1), hn, by omega, sd2 _, bg0⟩
      · have lp : p + 1 ≤ (ns.length : Int) := by
          have := of_decide_eq_false e1
          omega
        obtain ⟨z, hz⟩ : ∃ z, atI (ns.map V.int) (p + 1 - 1) = some (V.int z) := by
          have hj : p.toNat < ns.length := by omega
          refine ⟨ns[p.toNat], ?_⟩
          rw [show p + 1 - 1 = ((p.toNat : Nat) : Int) by omega]
          refine atI_nat ?_
          rw [List.getElem?_map, List.getElem?_eq_getElem hj]
          rfl
        refine ⟨_, rfl, _, _, _, _, rfl, rfl, SqL.of hR1, rfl, _, rfl, _, _, _, _, rfl, rfl, SqL.of hR1, rfl, _, _, rfl, rfl, _, _, _, _, rfl, rfl, hS1.sq, hz, ?_⟩
        refine ⟨_, rfl, _, _, _, _, rfl, rfl, SqL.of hR1, rfl, _, _, rfl, rfl, .inr ⟨by decide, by decide⟩, _, rfl, _, _, rfl, rfl, _, _, rfl, rfl, _, _, rfl, rfl, (by show (0 : Int) < 2147483647; decide), _, rfl, r, _, _, 2, rfl, rfl, hR1, rfl, ?_⟩
        have hR2 := @upd_same (upd H r (.lst [.ref sa, .int (p + 1), .int sd, .int bg])) r (.lst [.ref sa, .int (p + 1), .int ((sd * 48271 + z + 11) % 2147483647), .int bg])
        have hS2 := hS1.mono (frz_upd (o := .lst [.ref sa, .int (p + 1), .int ((sd * 48271 + z + 11) % 2147483647), .int bg]) hR1)
        refine ⟨_, rfl, _, _, rfl, rfl, ⟨by decide, by decide, by decide⟩, _, _, rfl, rfl, _, rfl, ?_⟩
        refine iB (fun e2 => ?_) (fun e2 => ?_)
        · refine ⟨_, rfl, _, rfl, _, _, rfl, rfl, ⟨m0, m1⟩, _, rfl, r, _, _, 3, rfl, rfl, hR2, rfl, ?_⟩
          refine ⟨_, rfl, _, rfl, _, _, rfl, rfl, m0, ?_⟩
          refine k _ _ (Int.emod_nonneg _ (by omega)) (Int.emod_lt_of_pos _ m0) off_upd3 ⟨sa, ns, p + 1, _, _, upd_same, hS2.mono (frz_upd hR2), hn, by omega, sd2 _, ?_⟩
          have z0 : (10 : Int) ^ (18 : Int).toNat ≤ z := of_decide_eq_true e2
          have z1 : (0 : Int) ≤ (10 : Int) ^ (18 : Int).toNat := by decide
          exact Int.ediv_nonneg (by omega) (by omega)
        · refine ⟨_, rfl, _, rfl, _, _, rfl, rfl, m0, ?_⟩
          exact k _ _ (Int.emod_nonneg _ (by omega)) (Int.emod_lt_of_pos _ m0) off_upd2 ⟨sa, ns, p + 1, _, bg, hR2, hS2, hn, by omega, sd2 _, bg0⟩
end
end K48
set_option maxHeartbeats 4000000
set_option linter.all false
/-! the state of the making: a dict with lists; small helpers of the law -/
namespace K48
open PySem L2
structure GS where
  rows : List MR
  line : Int
  labels : Int
  next : Int
  laid : List Int
  named : List Int
def kvS (lr ll ln : Addr) (g : GS) : List (Key × V) :=
  [(.inr "rows", .ref lr), (.inr "line", .int g.line), (.inr "labels", .int g.labels), (.inr "next", .int g.next), (.inr "laid", .ref ll), (.inr "named", .ref ln)]
theorem put_line (lr ll ln : Addr) (g : GS) (n : Int) : putK (kvS lr ll ln g) (.inr "line") (.int n) = kvS lr ll ln { g with line := n } := by rfl
theorem put_labels (lr ll ln : Addr) (g : GS) (n : Int) : putK (kvS lr ll ln g) (.inr "labels") (.int n) = kvS lr ll ln { g with labels := n } := by rfl
theorem put_next (lr ll ln : Addr) (g : GS) (n : Int) : putK (kvS lr ll ln g) (.inr "next") (.int n) = kvS lr ll ln { g with next := n } := by rfl
theorem put_laid (lr ll ln p : Addr) (g : GS) (l : List Int) : putK (kvS lr ll ln g) (.inr "laid") (.ref p) = kvS lr p ln { g with laid := l } := by rfl
theorem put_rows (lr ll ln p : Addr) (g : GS) (l : List MR) : putK (kvS lr ll ln g) (.inr "rows") (.ref p) = kvS p ll ln { g with rows := l } := by rfl
theorem get_at {H : Hp} {s : Addr} {kvs : List (Key × V)} {z : Str} {v : V} (ds : H s = some (.dK kvs)) (e : valV kvs (.inr z) = some v) : DGet H s (.str z) (some v) := by
  have := DGet.k (k := .inr z) ds
  rw [e] at this
  exact this
theorem get_rows {H : Hp} {s lr ll ln : Addr} {g : GS} (ds : H s = some (.dK (kvS lr ll ln g))) : DGet H s (.str "rows") (some (.ref lr)) := get_at ds rfl
theorem get_line {H : Hp} {s lr ll ln : Addr} {g : GS} (ds : H s = some (.dK (kvS lr ll ln g))) : DGet H s (.str "line") (some (.int g.line)) := get_at ds rfl
theorem get_labels {H : Hp} {s lr ll ln : Addr} {g : GS} (ds : H s = some (.dK (kvS lr ll ln g))) : DGet H s (.str "labels") (some (.int g.labels)) := get_at ds rfl
theorem get_next {H : Hp} {s lr ll ln : Addr} {g : GS} (ds : H s = some (.dK (kvS lr ll ln g))) : DGet H s (.str "next") (some (.int g.next)) := get_at ds rfl
theorem get_laid {H : Hp} {s lr ll ln : Addr} {g : GS} (ds : H s = some (.dK (kvS lr ll ln g))) : DGet H s (.str "laid") (some (.ref ll)) := get_at ds rfl
theorem get_named {H : Hp} {s lr ll ln : Addr} {g : GS} (ds : H s = some (.dK (kvS lr ll ln g))) : DGet H s (.str "named") (some (.ref ln)) := get_at ds rfl

structure GenB (K : PySem.W.Frag) (H : Hp) (r s : Addr) (g : GS) (lr ll ln : Addr) (vs : List V) : Prop where
  row : RowAt K H r
  ds : H s = some (.dK (kvS lr ll ln g))
  hr : H lr = some (.lst vs)
  rows : Paired (RowV H) vs g.rows
  hl : H ll = some (.lst (g.laid.map V.int))
  hn : H ln = some (.lst (g.named.map V.int))
  n1 : r ≠ lr
  n2 : r ≠ ll
  n3 : r ≠ ln
  n4 : lr ≠ ll
  n5 : lr ≠ ln
  n6 : ll ≠ ln
def GenAt (K : PySem.W.Frag) (H : Hp) (r s : Addr) (g : GS) : Prop := ∃ lr ll ln vs, GenB K H r s g lr ll ln vs

/-! what may be changed by a step of the making -/
def Fp (H : Hp) (r s b : Addr) : Prop := b = r ∨ b = s ∨ ∃ kvs k, H s = some (.dK kvs) ∧ (k, V.ref b) ∈ kvs
structure Step (r s : Addr) (H H' : Hp) : Prop where
  keep : ∀ b o, ¬ Fp H r s b → H b = some o → H' b = some o
  fp : ∀ b, Fp H' r s b → Fp H r s b ∨ H b = none
theorem Step.refl (r s : Addr) (H : Hp) : Step r s H H := ⟨fun _ _ _ e => e, fun _ e => .inl e⟩
theorem Step.trans {r s : Addr} {H H1 H2 : Hp} (a : Step r s H H1) (b : Step r s H1 H2) : Step r s H H2 where
  keep := fun c o n e => by
    refine b.keep c o (fun f => ?_) (a.keep c o n e)
    rcases a.fp c f with f | f
    · exact n f
    · rw [f] at e
      cases e
  fp := fun c f => by
    rcases b.fp c f with f | f
    · exact a.fp c f
    · by_cases n : Fp H r s c
      · exact .inl n
      · cases e : H c with
        | none => exact .inr rfl
        | some o =>
          rw [a.keep c o n e] at f
          cases f
theorem fp_same {r s b : Addr} {H H' : Hp} (e : H' s = H s) : Fp H' r s b ↔ Fp H r s b := by
  unfold Fp
  rw [e]
theorem Step.off {r s : Addr} {H H' : Hp} (o : Off r H H') (n : s ≠ r) : Step r s H H' where
  keep := fun c u f e => by
    rw [o c (fun z => f (.inl z))]
    exact e
  fp := fun c f => .inl ((fp_same (o s n)).mp f)
theorem Step.upd {r s x : Addr} {H : Hp} {o : HO} (h : Fp H r s x) (n : s ≠ x) : Step r s H (upd H x o) where
  keep := fun c u f e => by
    rw [upd_ne (fun z => f (by rw [z]; exact h))]
    exact e
  fp := fun c f => .inl ((fp_same (upd_ne n)).mp f)
theorem Step.new {r s p : Addr} {H : Hp} {o u : HO} (h : H p = none) (hs : H s = some u) : Step r s H (L2.upd H p o) where
  keep := fun c v f e => same_new h c v e
  fp := fun c f => .inl ((fp_same (upd_ne (ne_of_none hs h))).mp f)
theorem Step.dict {r s : Addr} {H : Hp} {kvs kvs' : List (Key × V)} (hs : H s = some (.dK kvs))
    (h : ∀ k b, (k, V.ref b) ∈ kvs' → (∃ k', (k', V.ref b) ∈ kvs) ∨ H b = none ∨ b = r) : Step r s H (L2.upd H s (.dK kvs')) where
  keep := fun c u f e => by
    rw [upd_ne (fun z => f (.inr (.inl z)))]
    exact e
  fp := fun c f => by
    rcases f with f | f | ⟨ks, k, e, m⟩
    · exact .inl (.inl f)
    · exact .inl (.inr (.inl f))
    · rw [upd_same] at e
      cases e
      rcases h k c m with ⟨k', m'⟩ | z | z
      · exact .inl (.inr (.inr ⟨kvs, k', hs, m'⟩))
      · exact .inr z
      · exact .inl (.inl z)
/-! the state under such steps -/
theorem tup_upd {H : Hp} {x : Addr} {o o' : HO} (h : H x = some o) (n : ∀ xs, o ≠ .tup xs) : TupStay H (upd H x o') := fun b xs e => by
  rw [upd_ne (fun z => by subst z; rw [e] at h; exact n xs (Option.some.inj h).symm)]
  exact e
theorem RowAt.same {K : PySem.W.Frag} {H H' : Hp} {r : Addr} (h : RowAt K H r) (s : Same H H') : RowAt K H' r := by
  obtain ⟨sa, ns, p, sd, bg, h1, h2, h3⟩ := h
  exact ⟨sa, ns, p, sd, bg, s _ _ h1, h2.mono (fun b o u e => s _ _ e), h3⟩
theorem RowAt.upd {K : PySem.W.Frag} {H : Hp} {r x : Addr} {o o' : HO} (h : RowAt K H r) (n : r ≠ x) (hx : H x = some o) (nf : ∀ ob u, o ≠ .frz ob u) : RowAt K (upd H x o') r := by
  obtain ⟨sa, ns, p, sd, bg, h1, h2, h3⟩ := h
  refine ⟨sa, ns, p, sd, bg, by rw [upd_ne n]; exact h1, h2.mono (fun b ob u e => ?_), h3⟩
  rw [upd_ne (fun z => by subst z; rw [e] at hx; exact nf ob u (Option.some.inj hx).symm)]
  exact e
section
variable {K : PySem.W.Frag} {H H' : Hp} {r s lr ll ln : Addr} {g : GS} {vs : List V}
theorem GenB.isL (G : GenB K H r s g lr ll ln vs) : ∃ xs, H r = some (.lst xs) := by
  obtain ⟨sa, ns, p, sd, bg, h1, _⟩ := G.row
  exact ⟨_, h1⟩
theorem GenB.rs (G : GenB K H r s g lr ll ln vs) : s ≠ r := by
  obtain ⟨xs, h⟩ := G.isL
  exact ne_of G.ds h (by intro z; cases z)
theorem GenB.sr (G : GenB K H r s g lr ll ln vs) : s ≠ lr := ne_of G.ds G.hr (by intro z; cases z)
theorem GenB.sl (G : GenB K H r s g lr ll ln vs) : s ≠ ll := ne_of G.ds G.hl (by intro z; cases z)
theorem GenB.sn (G : GenB K H r s g lr ll ln vs) : s ≠ ln := ne_of G.ds G.hn (by intro z; cases z)
theorem GenB.fr (G : GenB K H r s g lr ll ln vs) : Fp H r s lr := .inr (.inr ⟨_, .inr "rows", G.ds, by simp [kvS]⟩)
theorem GenB.fl (G : GenB K H r s g lr ll ln vs) : Fp H r s ll := .inr (.inr ⟨_, .inr "laid", G.ds, by simp [kvS]⟩)
theorem GenB.same (G : GenB K H r s g lr ll ln vs) (e : Same H H') : GenB K H' r s g lr ll ln vs :=
  ⟨G.row.same e, e _ _ G.ds, e _ _ G.hr, rows_mono e.tups G.rows, e _ _ G.hl, e _ _ G.hn, G.n1, G.n2, G.n3, G.n4, G.n5, G.n6⟩
theorem GenB.off (G : GenB K H r s g lr ll ln vs) (o : Off r H H') (row : RowAt K H' r) : GenB K H' r s g lr ll ln vs := by
  obtain ⟨xs, hR⟩ := G.isL
  refine ⟨row, by rw [o s G.rs]; exact G.ds, by rw [o lr G.n1.symm]; exact G.hr, rows_mono (fun b ys e => ?_) G.rows, by rw [o ll G.n2.symm]; exact G.hl, by rw [o ln G.n3.symm]; exact G.hn, G.n1, G.n2, G.n3, G.n4, G.n5, G.n6⟩
  rw [o b (ne_of e hR (by intro z; cases z))]
  exact e
theorem GenB.offS (G : GenB K H r s g lr ll ln vs) (o : Off r H H') : Step r s H H' := Step.off o G.rs
/-- a row behind -/
theorem GenB.addR (G : GenB K H r s g lr ll ln vs) {v : V} {m : MR} (h : RowV H v m) :
    GenB K (upd H lr (.lst (vs ++ [v]))) r s { g with rows := g.rows ++ [m] } lr ll ln (vs ++ [v]) :=
  have ts : TupStay H (upd H lr (.lst (vs ++ [v]))) := tup_upd G.hr (by intro xs z; cases z)
  ⟨G.row.upd G.n1 G.hr (by intro o u z; cases z), by rw [upd_ne G.sr]; exact G.ds, upd_same, (rows_mono ts G.rows).snoc (h.mono ts), by rw [upd_ne G.n4.symm]; exact G.hl, by rw [upd_ne G.n5.symm]; exact G.hn, G.n1, G.n2, G.n3, G.n4, G.n5, G.n6⟩
/-- a cell behind -/
theorem GenB.addL (G : GenB K H r s g lr ll ln vs) (c : Int) :
    GenB K (upd H ll (.lst (g.laid.map V.int ++ [.int c]))) r s { g with laid := g.laid ++ [c] } lr ll ln vs :=
  have ts : TupStay H (upd H ll (.lst (g.laid.map V.int ++ [.int c]))) := tup_upd G.hl (by intro xs z; cases z)
  ⟨G.row.upd G.n2 G.hl (by intro o u z; cases z), by rw [upd_ne G.sl]; exact G.ds, by rw [upd_ne G.n4]; exact G.hr, rows_mono ts G.rows, by rw [upd_same, List.map_append]; rfl, by rw [upd_ne G.n6.symm]; exact G.hn, G.n1, G.n2, G.n3, G.n4, G.n5, G.n6⟩
/-- numbers of the dict -/
theorem GenB.num (G : GenB K H r s g lr ll ln vs) (g' : GS) (e1 : g'.rows = g.rows) (e2 : g'.laid = g.laid) (e3 : g'.named = g.named) :
    GenB K (upd H s (.dK (kvS lr ll ln g'))) r s g' lr ll ln vs :=
  have ts : TupStay H (upd H s (.dK (kvS lr ll ln g'))) := tup_upd G.ds (by intro xs z; cases z)
  ⟨G.row.upd G.rs.symm G.ds (by intro o u z; cases z), upd_same, by rw [upd_ne G.sr.symm]; exact G.hr, by rw [e1]; exact rows_mono ts G.rows, by rw [upd_ne G.sl.symm, e2]; exact G.hl, by rw [upd_ne G.sn.symm, e3]; exact G.hn, G.n1, G.n2, G.n3, G.n4, G.n5, G.n6⟩
theorem GenB.numS (G : GenB K H r s g lr ll ln vs) (g' : GS) : Step r s H (upd H s (.dK (kvS lr ll ln g'))) := by
  refine Step.dict G.ds fun k b m => .inl ?_
  simp [kvS] at m
  rcases m with ⟨rfl, rfl⟩ | ⟨rfl, rfl⟩ | ⟨rfl, rfl⟩
  · exact ⟨.inr "rows", by simp [kvS]⟩
  · exact ⟨.inr "laid", by simp [kvS]⟩
  · exact ⟨.inr "named", by simp [kvS]⟩
/-- another list of laid cells -/
theorem GenB.newL (G : GenB K H r s g lr ll ln vs) {p : Addr} {l : List Int} (hp : H p = some (.lst (l.map V.int))) (np : ¬ Fp H r s p) :
    GenB K (upd H s (.dK (kvS lr p ln { g with laid := l }))) r s { g with laid := l } lr p ln vs :=
  have ts : TupStay H (upd H s (.dK (kvS lr p ln { g with laid := l }))) := tup_upd G.ds (by intro xs z; cases z)
  have ps : p ≠ s := fun z => np (.inr (.inl z))
  ⟨G.row.upd G.rs.symm G.ds (by intro o u z; cases z), upd_same, by rw [upd_ne G.sr.symm]; exact G.hr, rows_mono ts G.rows, by rw [upd_ne ps]; exact hp, by rw [upd_ne G.sn.symm]; exact G.hn, G.n1, fun z => np (.inl z.symm), G.n3,
    fun z => np (by rw [← z]; exact G.fr), G.n5, fun z => np (by rw [z]; exact .inr (.inr ⟨_, .inr "named", G.ds, by simp [kvS]⟩))⟩
/-- another list of rows -/
theorem GenB.newR (G : GenB K H r s g lr ll ln vs) {p : Addr} {us : List V} {l : List MR} (hp : H p = some (.lst us)) (np : ¬ Fp H r s p) (hu : Paired (RowV H) us l) :
    GenB K (upd H s (.dK (kvS p ll ln { g with rows := l }))) r s { g with rows := l } p ll ln us :=
  have ts : TupStay H (upd H s (.dK (kvS p ll ln { g with rows := l }))) := tup_upd G.ds (by intro xs z; cases z)
  have ps : p ≠ s := fun z => np (.inr (.inl z))
  ⟨G.row.upd G.rs.symm G.ds (by intro o u z; cases z), upd_same, by rw [upd_ne ps]; exact hp, rows_mono ts hu, by rw [upd_ne G.sl.symm]; exact G.hl, by rw [upd_ne G.sn.symm]; exact G.hn, fun z => np (.inl z.symm), G.n2, G.n3,
    fun z => np (by rw [z]; exact G.fl), fun z => np (by rw [z]; exact .inr (.inr ⟨_, .inr "named", G.ds, by simp [kvS]⟩)), G.n6⟩
end
/-! ### items of lists of ints -/
theorem at_int {xs : List Int} {k : Int} (h0 : 0 ≤ k) (h1 : k < xs.length) : ∃ c, c ∈ xs ∧ atI (xs.map V.int) k = some (.int c) := by
  have hj : k.toNat < xs.length := by omega
  refine ⟨xs[k.toNat], List.getElem_mem hj, ?_⟩
  have := atI_nat (xs := xs.map V.int) (j := k.toNat) (v := V.int xs[k.toNat]) (by rw [List.getElem?_map, List.getElem?_eq_getElem hj]; rfl)
  rw [show ((k.toNat : Nat) : Int) = k by omega] at this
  exact this
theorem at_last {xs : List Int} (h : xs ≠ []) : ∃ c, c ∈ xs ∧ atI (xs.map V.int) (-1) = some (.int c) := by
  refine ⟨xs.getLast h, List.getLast_mem h, ?_⟩
  have := atI_last (xs.dropLast.map V.int) (V.int (xs.getLast h))
  rw [show xs.dropLast.map V.int ++ [V.int (xs.getLast h)] = (xs.dropLast ++ [xs.getLast h]).map V.int by rw [List.map_append]; rfl, List.dropLast_concat_getLast] at this
  exact this
section
variable {P : Program} {w : World} {K : PySem.W.Frag} {mg : Str → Option Value} {base : Heap} {aO aL : Addr}
def spOperand (K : PySem.W.Frag) : Sp := fun vs H Q _ => ∃ (r s : Addr) (g : GS) (lr ll ln : Addr) (us : List V), vs = [.ref r, .ref s] ∧ GenB K H r s g lr ll ln us ∧ g.laid ≠ [] ∧ g.laid.length ≤ 1000000 ∧
  ∀ (c : Int) (H' : Hp), c ∈ g.laid → GenB K H' r s g lr ll ln us → Step r s H H' → Q (.int c) H'
theorem scOperand : FnScope ["_law_row", "_law_s", "_law_some"] ["_law_row", "_law_s"] (defScope (topS 13)) := ⟨rfl, rfl, rfl, by decide +kernel, rfl, by decide +kernel, by decide +kernel⟩
theorem fn_operand {f : Addr} {fd : FuncData} (F : Fun K "_law_operand" "_law_operand" (topS 13) f fd) (T : Blt K mg aO aL)
    (D_taken : Dfn P w K mg base "_law_taken" 1 ["_law_row", "_law_many"] (spTaken K)) :
    FnOk P w K mg base CX0 2 f fd ["_law_row", "_law_s"] (spOperand K) := by
  have sc := scOperand
  refine F.ok sc (fun vs H Q E h => ?_) (fun cdv A outer s H vs Q E hr h => ?_)
  · obtain ⟨r, s, g, lr, ll, ln, us, rfl, _⟩ := h
    rfl
  · obtain ⟨r, s, g, lr, ll, ln, us, rfl, G, hne, hlen, k⟩ := h
    have hu := hu_of hr
    refine ⟨_,
(pss_cons (ps_set (i := 2) sc.nd rfl (Or.inl rfl) (pe_dget hu (pv 1) pe_str (fun _ _ => rfl)))
(pss_one (ps_ret (pe_ifExp (pt_cmpR op_eq (pe_callD D_taken (hr.mono (by decide)) (by rfl) (pa_cons (pv 0) (pa_cons pe_int pa_nil))) pe_int (nomark _)) (pe_ix ix_list (pv 2) (pe_un un_neg pe_int) (fun _ _ => rfl)) (pe_ix ix_list (pv 2) (pe_callD D_taken (hr.mono (by decide)) (by rfl) (pa_cons (pv 0) (pa_cons (pe_callB (call_len) (by rfl) T.len PySem.boot_len (pa_cons (pv 2) pa_nil)) pa_nil))) (fun _ _ => rfl))))))
    , ?_⟩
    refine ⟨_, rfl, s, _, rfl, get_laid G.ds, _, rfl, r, 2, rfl, G.row, by decide, by decide, fun k0 H1 z0 z1 o1 row1 => ⟨rfl, _, rfl, ?_⟩⟩
    have G1 := G.off o1 row1
    refine iB (fun e => ?_) (fun e => ?_)
    · obtain ⟨c, hc, ec⟩ := at_last hne
      exact ⟨_, rfl, _, rfl, _, _, _, _, rfl, rfl, SqL.of G1.hl, ec, k c H1 hc G1 (G.offS o1)⟩
    · refine ⟨_, rfl, _, rfl, _, rfl, _, g.laid.length, rfl, .inl ⟨_, SqL.of G1.hl, (List.length_map _).symm⟩, r, _, rfl, G1.row, ?_, ?_, fun k1 H2 y0 y1 o2 row2 => ?_⟩
      · have := List.length_pos_iff.mpr hne
        omega
      · omega
      · have G2 := G1.off o2 row2
        obtain ⟨c, hc, ec⟩ := at_int y0 y1
        exact ⟨_, _, _, _, rfl, rfl, SqL.of G2.hl, ec, k c H2 hc G2 ((G.offS o1).trans (G1.offS o2))⟩
end
end K48
set_option maxHeartbeats 4000000
set_option linter.all false
/-! _law_fresh, _law_place, _law_lays -/
namespace K48
open PySem L2
def MR.isLay : MR → Prop
  | .op _ _ _ _ => True
  | .put _ _ => True
  | .copy _ _ => True
  | .fetch _ _ _ => True
  | .call _ _ _ _ => True
  | _ => False
section
variable {P : Program} {w : World} {K : PySem.W.Frag} {mg : Str → Option Value} {base : Heap} {aO aL : Addr}
def spFresh (K : PySem.W.Frag) : Sp := fun vs H Q _ => ∃ (r s : Addr) (g : GS) (lr ll ln : Addr) (us : List V), vs = [.ref r, .ref s] ∧ GenB K H r s g lr ll ln us ∧ g.laid.length ≤ 1000000 ∧ g.named.length ≤ 1000000 ∧
  ∀ (c n : Int) (H' : Hp), GenB K H' r s { g with next := n } lr ll ln us → Step r s H H' → Q (.int c) H'
theorem scFresh : FnScope ["_law_row", "_law_s", "_law_way"] ["_law_row", "_law_s"] (defScope (topS 14)) := ⟨rfl, rfl, rfl, by decide +kernel, rfl, by decide +kernel, by decide +kernel⟩
theorem fn_fresh {f : Addr} {fd : FuncData} (F : Fun K "_law_fresh" "_law_fresh" (topS 14) f fd) (T : Blt K mg aO aL)
    (D_taken : Dfn P w K mg base "_law_taken" 1 ["_law_row", "_law_many"] (spTaken K)) :
    FnOk P w K mg base CX0 2 f fd ["_law_row", "_law_s"] (spFresh K) := by
  have sc := scFresh
  refine F.ok sc (fun vs H Q E h => ?_) (fun cdv A outer s H vs Q E hr h => ?_)
  · obtain ⟨r, s, g, lr, ll, ln, us, rfl, _⟩ := h
    rfl
  · obtain ⟨r, s, g, lr, ll, ln, us, rfl, G, hlen, hlen2, k⟩ := h
    have hu := hu_of hr
    refine ⟨_,
(pss_cons (ps_set (i := 2) sc.nd rfl (Or.inl rfl) (pe_callD D_taken (hr.mono (by decide)) (by rfl) (pa_cons (pv 0) (pa_cons pe_int pa_nil))))
(pss_cons (ps_if (PW.pt (pw_and (pt_cmpR op_eq (pv 2) pe_int (nomark _)) (pw_and1 (pt_cmpR (op_neNil hr.units0) (pe_dget hu (pv 1) pe_str (fun _ _ => rfl)) (pe_lst pa_nil) (nomark _)))))
(pss_one (ps_ret (pe_ix ix_list (pe_dget hu (pv 1) pe_str (fun _ _ => rfl)) (pe_callD D_taken (hr.mono (by decide)) (by rfl) (pa_cons (pv 0) (pa_cons (pe_callB (call_len) (by rfl) T.len PySem.boot_len (pa_cons (pe_dget hu (pv 1) pe_str (fun _ _ => rfl)) pa_nil)) pa_nil))) (fun _ _ => rfl))))
pss_nil)
(pss_cons (ps_if (PW.pt (pw_and (pt_cmpR op_eq (pv 2) pe_int (nomark _)) (pw_and1 (pt_cmpR (op_neNil hr.units0) (pe_dget hu (pv 1) pe_str (fun _ _ => rfl)) (pe_lst pa_nil) (nomark _)))))
(pss_one (ps_ret (pe_ix ix_list (pe_dget hu (pv 1) pe_str (fun _ _ => rfl)) (pe_callD D_taken (hr.mono (by decide)) (by rfl) (pa_cons (pv 0) (pa_cons (pe_callB (call_len) (by rfl) T.len PySem.boot_len (pa_cons (pe_dget hu (pv 1) pe_str (fun _ _ => rfl)) pa_nil)) pa_nil))) (fun _ _ => rfl))))
pss_nil)
(pss_cons (ps_dput hu (pv 1) pe_str (pe_op op_add (pe_dget hu (pv 1) pe_str (fun _ _ => rfl)) pe_int) rfl)
(pss_one (ps_ret (pe_op op_sub (pe_dget hu (pv 1) pe_str (fun _ _ => rfl)) pe_int)))))))
    , ?_⟩
    refine ⟨_, rfl, r, 6, rfl, G.row, by decide, by decide, fun k0 H1 z0 z1 o1 row1 => ?_⟩
    have G1 := G.off o1 row1
    have S1 := G.offS o1
    have tk : ∀ {kk : Int}, kk ≤ 1000000 → kk < 1073741824 := fun h => by omega
    dsimp only [gName]
    refine seq_cut (fun σ' H' => σ' = [some (.ref r), some (.ref s), some (.int k0)] ∧ GenB K H' r s g lr ll ln us ∧ Step r s H H') ?_ (fun nx hn => ?_)
    · rintro _ H2 ⟨rfl, G2, S2⟩
      refine seq_cut (fun σ' H' => σ' = [some (.ref r), some (.ref s), some (.int k0)] ∧ GenB K H' r s g lr ll ln us ∧ Step r s H H') ?_ (fun nx hn => ?_)
      · rintro _ H2 ⟨rfl, G2, S2⟩
        refine ⟨_, rfl, s, _, rfl, get_next G2.ds, _, _, rfl, rfl, _, rfl, _, _, rfl, .inl ⟨_, .inr "next", G2.ds, rfl, by show 6 < sizeLine; decide, rfl⟩, ?_⟩
        rw [put_next]
        refine ⟨_, rfl, s, _, rfl, get_next upd_same, _, _, rfl, rfl, ?_⟩
        exact k _ (g.next + 1) _ (G2.num _ rfl rfl rfl) (S2.trans (G2.numS _))
      · refine ⟨_, rfl, rfl, _, rfl, ?_⟩
        refine iB (fun e => ?_) (fun e => iF rfl (hn _ _ ⟨rfl, G2, S2⟩))
        refine ⟨_, rfl, s, _, rfl, get_laid G2.ds, Nat.zero_le _, fun q hq => ?_⟩
        have G3 := G2.same (same_new (o := .lst []) hq)
        have S3 := S2.trans (Step.new (r := r) (o := .lst []) hq G2.ds)
        refine ⟨ll, q, _, rfl, rfl, ne_of_none G2.hl hq, SqL.of G3.hl, SqL.of upd_same, _, rfl, ?_⟩
        refine iB (fun e => ?_) (fun e => hn _ _ ⟨rfl, G3, S3⟩)
        refine ⟨_, rfl, s, _, rfl, get_laid G3.ds, _, rfl, _, rfl, s, _, rfl, get_laid G3.ds, _, g.laid.length, rfl, .inl ⟨_, SqL.of G3.hl, (List.length_map _).symm⟩, r, _, rfl, G3.row, ?_, tk (by omega), fun k1 H2 y0 y1 o2 row2 => ?_⟩
        · cases h : g.laid with
          | nil =>
            rw [h] at e
            exact nomatch e
          | cons a l =>
            rw [List.length_cons]
            omega
        · have G4 := G3.off o2 row2
          obtain ⟨c, hc, ec⟩ := at_int y0 y1
          exact ⟨_, _, _, _, rfl, rfl, SqL.of G4.hl, ec, k c g.next H2 (G4) (S3.trans (G3.offS o2))⟩
    · refine ⟨_, rfl, rfl, _, rfl, ?_⟩
      refine iB (fun e => ?_) (fun e => iF rfl (hn _ _ ⟨rfl, G1, S1⟩))
      refine ⟨_, rfl, s, _, rfl, get_named G1.ds, Nat.zero_le _, fun q hq => ?_⟩
      have G3 := G1.same (same_new (o := .lst []) hq)
      have S3 := S1.trans (Step.new (r := r) (o := .lst []) hq G1.ds)
      refine ⟨ln, q, _, rfl, rfl, ne_of_none G1.hn hq, SqL.of G3.hn, SqL.of upd_same, _, rfl, ?_⟩
      refine iB (fun e => ?_) (fun e => hn _ _ ⟨rfl, G3, S3⟩)
      refine ⟨_, rfl, s, _, rfl, get_named G3.ds, _, rfl, _, rfl, s, _, rfl, get_named G3.ds, _, g.named.length, rfl, .inl ⟨_, SqL.of G3.hn, (List.length_map _).symm⟩, r, _, rfl, G3.row, ?_, tk (by omega), fun k1 H2 y0 y1 o2 row2 => ?_⟩
      · cases h : g.named with
        | nil =>
          rw [h] at e
          exact nomatch e
        | cons a l =>
          rw [List.length_cons]
          omega
      · have G4 := G3.off o2 row2
        obtain ⟨c, hc, ec⟩ := at_int y0 y1
        exact ⟨_, _, _, _, rfl, rfl, SqL.of G4.hn, ec, k c g.next H2 (G4) (S3.trans (G3.offS o2))⟩
def spPlace (K : PySem.W.Frag) : Sp := fun vs H Q _ => ∃ (r s : Addr) (g : GS) (lr ll ln : Addr) (us : List V), vs = [.ref r, .ref s] ∧ GenB K H r s g lr ll ln us ∧
  ∀ (p : Addr) (H' : Hp), GenB K H' r s g lr ll ln us → Step r s H H' → Q (.ref p) H'
theorem scPlace : FnScope ["_law_row", "_law_s"] ["_law_row", "_law_s"] (defScope (topS 15)) := ⟨rfl, rfl, rfl, by decide +kernel, rfl, by decide +kernel, by decide +kernel⟩
theorem fn_place {f : Addr} {fd : FuncData} (F : Fun K "_law_place" "_law_place" (topS 15) f fd) (T : Blt K mg aO aL)
    (D_taken : Dfn P w K mg base "_law_taken" 1 ["_law_row", "_law_many"] (spTaken K)) :
    FnOk P w K mg base CX0 2 f fd ["_law_row", "_law_s"] (spPlace K) := by
  have sc := scPlace
  refine F.ok sc (fun vs H Q E h => ?_) (fun cdv A outer s H vs Q E hr h => ?_)
  · obtain ⟨r, s, g, lr, ll, ln, us, rfl, _⟩ := h
    rfl
  · obtain ⟨r, s, g, lr, ll, ln, us, rfl, G, k⟩ := h
    have hu := hu_of hr
    refine ⟨_,
(pss_one (ps_ret (pe_tup (pa_cons (pe_dget hu (pv 1) pe_str (fun _ _ => rfl)) (pa_cons (pe_op op_add pe_int (pe_callD D_taken (hr.mono (by decide)) (by rfl) (pa_cons (pv 0) (pa_cons pe_int pa_nil)))) pa_nil)))))
    , ?_⟩
    refine ⟨_, rfl, s, _, rfl, get_line G.ds, _, rfl, r, 40, rfl, G.row, by decide, by decide, fun k0 H1 z0 z1 o1 row1 => ⟨_, _, rfl, rfl, (by show 2 ≤ sizeLine; decide), fun q hq => ?_⟩⟩
    have G1 := G.off o1 row1
    exact k q _ (G1.same (same_new hq)) ((G.offS o1).trans (Step.new hq G1.ds))
end
end K48
set_option maxHeartbeats 4000000
set_option linter.all false
/-! _law_lays -/
namespace K48
open PySem L2
theorem tup_not_fp {K : PySem.W.Frag} {H : Hp} {r s lr ll ln : Addr} {g : GS} {vs : List V} (G : GenB K H r s g lr ll ln vs) {t : Addr} {xs : List V} (h : H t = some (.tup xs)) : ¬ Fp H r s t := by
  rintro (rfl | rfl | ⟨kvs, k, e, m⟩)
  · obtain ⟨ys, h2⟩ := G.isL
    rw [h] at h2
    cases h2
  · rw [G.ds] at h
    cases h
  · rw [G.ds] at e
    cases e
    simp [kvS] at m
    rcases m with ⟨_, rfl⟩ | ⟨_, rfl⟩ | ⟨_, rfl⟩
    · rw [G.hr] at h
      cases h
    · rw [G.hl] at h
      cases h
    · rw [G.hn] at h
      cases h
theorem Step.tups {K : PySem.W.Frag} {H H' : Hp} {r s lr ll ln : Addr} {g : GS} {vs : List V} (S : Step r s H H') (G : GenB K H r s g lr ll ln vs) : TupStay H H' :=
  fun t xs h => S.keep t _ (tup_not_fp G h) h
section
variable {P : Program} {w : World} {K : PySem.W.Frag} {mg : Str → Option Value} {base : Heap} {aO aL : Addr}
def spLays (K : PySem.W.Frag) : Sp := fun vs H Q _ => ∃ (r s t b : Addr) (g : GS) (m : MR) (lr ll ln : Addr) (us : List V), vs = [.ref r, .ref s, .ref t] ∧ GenB K H r s g lr ll ln us ∧ g.rows.length ≤ 1000000 ∧ g.laid.length ≤ 1000000 ∧
  H t = some (.tup (m.pre b)) ∧ m.aux H b ∧ m.isLay ∧
  ∀ (v : V) (H' : Hp), GenB K H' r s { g with rows := g.rows ++ [m], laid := g.laid ++ m.lays.toList } lr ll ln (us ++ [v]) → Step r s H H' → Q .non H'
theorem scLays : FnScope ["_law_row", "_law_s", "_law_middle_here"] ["_law_row", "_law_s", "_law_middle_here"] (defScope (topS 27)) := ⟨rfl, rfl, rfl, by decide +kernel, rfl, by decide +kernel, by decide +kernel⟩
theorem fn_lays {f : Addr} {fd : FuncData} (F : Fun K "_law_lays" "_law_lays" (topS 27) f fd) (T : Blt K mg aO aL)
    (D_place : Dfn P w K mg base "_law_place" 2 ["_law_row", "_law_s"] (spPlace K)) :
    FnOk P w K mg base CX0 3 f fd ["_law_row", "_law_s", "_law_middle_here"] (spLays K) := by
  have sc := scLays
  refine F.ok sc (fun vs H Q E h => ?_) (fun cdv A outer s H vs Q E hr h => ?_)
  · obtain ⟨r, s, t, b, g, m, lr, ll, ln, us, rfl, _⟩ := h
    rfl
  · obtain ⟨r, s, t, b, g, m, lr, ll, ln, us, rfl, G, hl1, hl2, ht, haux, hlay, k⟩ := h
    have hu := hu_of hr
    have hul : us.length = g.rows.length := G.rows.length
    refine ⟨_,
(pss_cons (ps_expr (pe_bm PySem.F.plainAttrs_list PySem.F.slot_list_append PySem.F.type_list_append mt_append (pe_dget hu (pv 1) pe_str (fun _ _ => rfl)) (pa_cons (pe_op op_catA (pv 2) (pe_tup (pa_cons (pe_callD D_place (hr.mono (by decide)) (by rfl) (pa_cons (pv 0) (pa_cons (pv 1) pa_nil))) pa_nil))) pa_nil)))
(pss_one (ps_if (PW.pt (pw_or (pt_cmpR op_ne (pe_ix ix_tup (pv 2) pe_int (fun _ _ => rfl)) pe_str (nomark _)) (pw_or1 (pt_cmpR op_notN (pe_ix ix_tup (pv 2) pe_int (fun _ _ => rfl)) pe_non (nomark _)))))
(pss_one (ps_expr (pe_bm PySem.F.plainAttrs_list PySem.F.slot_list_append PySem.F.type_list_append mt_append (pe_dget hu (pv 1) pe_str (fun _ _ => rfl)) (pa_cons (pe_ix ix_tup (pv 2) pe_int (fun _ _ => rfl)) pa_nil))))
pss_nil)))
    , ?_⟩
    refine ⟨_, rfl, s, _, rfl, get_rows G.ds, .inl ⟨rfl, _, SqL.of G.hr⟩, _, rfl, _, rfl, _, rfl, r, s, g, lr, ll, ln, us, rfl, G, fun p H1 G1 S1 => ?_⟩
    have ts := S1.tups G
    refine ⟨by show 1 ≤ sizeLine; decide, fun q hq => ?_⟩
    have G2 := G1.same (same_new (o := .tup [.ref p]) hq)
    have S2 := S1.trans (Step.new (r := r) (o := .tup [.ref p]) hq G1.ds)
    have ts2 := S2.tups G
    have h4 : (m.pre b).length ≤ 10 := by cases m <;> (simp only [MR.pre, MR.rest, List.length_cons, List.length_nil]; omega)
    refine ⟨t, q, _, _, rfl, rfl, SqT.of (ts2 _ _ ht), SqT.of upd_same, sz (by simp only [List.length_singleton]; omega), fun z => absurd z (by simp [MR.pre]), fun _ z => absurd z (by simp), fun _ _ u hu2 => ?_⟩
    have G3 := G2.same (same_new (o := .tup (m.pre b ++ [.ref p])) hu2)
    have S3 := S2.trans (Step.new (r := r) (o := .tup (m.pre b ++ [.ref p])) hu2 G2.ds)
    have ts3 := S3.tups G
    have row : RowV (upd (upd H1 q (.tup [.ref p])) u (.tup (m.pre b ++ [.ref p]))) (.ref u) m := ⟨u, b, .ref p, rfl, upd_same, MR.aux_mono ts3 haux⟩
    refine ⟨lr, us, _, rfl, rfl, G3.hr, szl (by omega), ?_⟩
    have G4 := G3.addR row
    have S4 := S3.trans (Step.upd (o := .lst (us ++ [.ref u])) G3.fr G3.sr)
    have ts4 := S4.tups G
    refine ⟨_, rfl, _, _, _, _, rfl, rfl, SqT.of (ts4 _ _ ht), atP m b, rfl, _, rfl, ?_⟩
    have hl3 : (g.laid.map V.int).length < sizeLine := by
      rw [List.length_map]
      exact szl hl2
    cases m with
    | op o c d e =>
      refine iT (by cases o <;> rfl) (iT rfl ?_)
      exact ⟨_, rfl, s, _, rfl, get_laid G4.ds, .inl ⟨rfl, _, SqL.of G4.hl⟩, _, rfl, _, _, _, _, rfl, rfl, SqT.of (ts4 _ _ ht), rfl, ll, _, _, rfl, rfl, G4.hl, hl3, k _ _ (G4.addL c) (S4.trans (Step.upd G4.fl G4.sl))⟩
    | put c d =>
      refine iT (by rfl) (iT rfl ?_)
      exact ⟨_, rfl, s, _, rfl, get_laid G4.ds, .inl ⟨rfl, _, SqL.of G4.hl⟩, _, rfl, _, _, _, _, rfl, rfl, SqT.of (ts4 _ _ ht), rfl, ll, _, _, rfl, rfl, G4.hl, hl3, k _ _ (G4.addL c) (S4.trans (Step.upd G4.fl G4.sl))⟩
    | copy c d =>
      refine iT (by rfl) (iT rfl ?_)
      exact ⟨_, rfl, s, _, rfl, get_laid G4.ds, .inl ⟨rfl, _, SqL.of G4.hl⟩, _, rfl, _, _, _, _, rfl, rfl, SqT.of (ts4 _ _ ht), rfl, ll, _, _, rfl, rfl, G4.hl, hl3, k _ _ (G4.addL c) (S4.trans (Step.upd G4.fl G4.sl))⟩
    | fetch c d e =>
      refine iT (by rfl) (iT rfl ?_)
      exact ⟨_, rfl, s, _, rfl, get_laid G4.ds, .inl ⟨rfl, _, SqL.of G4.hl⟩, _, rfl, _, _, _, _, rfl, rfl, SqT.of (ts4 _ _ ht), rfl, ll, _, _, rfl, rfl, G4.hl, hl3, k _ _ (G4.addL c) (S4.trans (Step.upd G4.fl G4.sl))⟩
    | call c d e as =>
      refine iF (by rfl) ⟨_, rfl, _, _, _, _, rfl, rfl, SqT.of (ts4 _ _ ht), rfl, rfl, _, rfl, ?_⟩
      cases c with
      | none =>
        refine iF (by rfl) ?_
        have ea : g.laid ++ (MR.call none d e as).lays.toList = g.laid := List.append_nil _
        rw [ea] at k
        exact k _ _ G4 S4
      | some c =>
        refine iT (by rfl) ?_
        exact ⟨_, rfl, s, _, rfl, get_laid G4.ds, .inl ⟨rfl, _, SqL.of G4.hl⟩, _, rfl, _, _, _, _, rfl, rfl, SqT.of (ts4 _ _ ht), rfl, ll, _, _, rfl, rfl, G4.hl, hl3, k _ _ (G4.addL c) (S4.trans (Step.upd G4.fl G4.sl))⟩
    | _ => exact hlay.elim
end
end K48
set_option maxHeartbeats 8000000
set_option linter.all false
/-! _law_straight -/
namespace K48
open PySem L2
theorem new_not_fp {K : PySem.W.Frag} {H : Hp} {r s lr ll ln : Addr} {g : GS} {vs : List V} (G : GenB K H r s g lr ll ln vs) {p : Addr} {o : HO} (h : H p = none) : ¬ Fp (upd H p o) r s p := by
  have hs : (upd H p o) s = H s := upd_ne (ne_of_none G.ds h)
  rintro (rfl | rfl | ⟨kvs, k, e, m⟩)
  · obtain ⟨ys, h2⟩ := G.isL
    rw [h] at h2
    cases h2
  · rw [G.ds] at h
    cases h
  · rw [hs, G.ds] at e
    cases e
    simp [kvS] at m
    rcases m with ⟨_, rfl⟩ | ⟨_, rfl⟩ | ⟨_, rfl⟩
    · rw [G.hr] at h
      cases h
    · rw [G.hl] at h
      cases h
    · rw [G.hn] at h
      cases h
theorem Step.nfp {r s b : Addr} {H H' : Hp} {o : HO} (S : Step r s H H') (n : ¬ Fp H r s b) (h : H b = some o) : ¬ Fp H' r s b := fun f => by
  rcases S.fp b f with z | z
  · exact n z
  · rw [z] at h
    cases h
theorem GenB.other {K : PySem.W.Frag} {H : Hp} {r s lr ll ln : Addr} {g : GS} {vs : List V} (G : GenB K H r s g lr ll ln vs) {x : Addr} {xs ys : List V} (n : ¬ Fp H r s x) (h : H x = some (.lst xs)) :
    GenB K (upd H x (.lst ys)) r s g lr ll ln vs :=
  have ts : TupStay H (upd H x (.lst ys)) := tup_upd h (by intro xs z; cases z)
  have nn : Fp H r s ln := .inr (.inr ⟨_, .inr "named", G.ds, by simp [kvS]⟩)
  ⟨G.row.upd (fun z => n (.inl z.symm)) h (by intro o u z; cases z), by rw [upd_ne (fun z => n (.inr (.inl z.symm)))]; exact G.ds, by rw [upd_ne (fun z => n (by rw [← z]; exact G.fr))]; exact G.hr, rows_mono ts G.rows,
    by rw [upd_ne (fun z => n (by rw [← z]; exact G.fl))]; exact G.hl, by rw [upd_ne (fun z => n (by rw [← z]; exact nn))]; exact G.hn, G.n1, G.n2, G.n3, G.n4, G.n5, G.n6⟩
theorem Step.fresh {r s p : Addr} {H H1 : Hp} {o : HO} (S : Step r s H H1) (h : H p = none) (n : s ≠ p) : Step r s H (L2.upd H1 p o) where
  keep := fun c u f e => by
    rw [upd_ne (ne_of_none e h)]
    exact S.keep c u f e
  fp := fun c f => S.fp c ((fp_same (upd_ne n)).mp f)
theorem nfp_upd {r s p b : Addr} {H : Hp} {o : HO} (h : ¬ Fp H r s b) (n : s ≠ p) : ¬ Fp (upd H p o) r s b := fun f => h ((fp_same (upd_ne n)).mp f)
def Strt (L : List Int) (m : MR) : Prop := (∀ c ∈ m.reads, c ∈ L) ∧ match m with
  | .op _ _ _ _ => True
  | .put _ n => -1000000 ≤ n ∧ n ≤ 1000000
  | .copy _ _ => True
  | .fetch _ f k => f.length ≤ 3 ∧ k.length ≤ 3
  | .lay k _ => k.length ≤ 3
  | .say k _ => k.length ≤ 3
  | .call _ f k as => f.length ≤ 3 ∧ k.length ≤ 3 ∧ as.length ≤ 3
  | _ => False
theorem at_ops {k : Int} (h0 : 0 ≤ k) (h1 : k < 7) : ∃ o : Op, atI [V.str "add", V.str "take", V.str "times", V.str "over", V.str "rest", V.str "less", V.str "same"] k = some (.str o.name) := by
  have e : k = 0 ∨ k = 1 ∨ k = 2 ∨ k = 3 ∨ k = 4 ∨ k = 5 ∨ k = 6 := by omega
  rcases e with rfl | rfl | rfl | rfl | rfl | rfl | rfl
  · exact ⟨.add, rfl⟩
  · exact ⟨.take, rfl⟩
  · exact ⟨.times, rfl⟩
  · exact ⟨.over, rfl⟩
  · exact ⟨.rest, rfl⟩
  · exact ⟨.less, rfl⟩
  · exact ⟨.same, rfl⟩
theorem at2 {k : Int} {x y : V} (h0 : 0 ≤ k) (h1 : k < 2) : ∃ v, (v = x ∨ v = y) ∧ atI [x, y] k = some v := by
  have e : k = 0 ∨ k = 1 := by omega
  rcases e with rfl | rfl
  · exact ⟨x, .inl rfl, rfl⟩
  · exact ⟨y, .inr rfl, rfl⟩
theorem at2s {k : Int} {x y : Str} (h0 : 0 ≤ k) (h1 : k < 2) (hx : x.length ≤ 3 := by decide +kernel) (hy : y.length ≤ 3 := by decide +kernel) : ∃ z : Str, z.length ≤ 3 ∧ atI [V.str x, V.str y] k = some (.str z) := by
  obtain ⟨v, e | e, h⟩ := at2 (x := V.str x) (y := V.str y) h0 h1
  · exact ⟨x, hx, by rw [h, e]⟩
  · exact ⟨y, hy, by rw [h, e]⟩
theorem at3 {k : Int} {x y z : V} (h0 : 0 ≤ k) (h1 : k < 3) : ∃ v, (v = x ∨ v = y ∨ v = z) ∧ atI [x, y, z] k = some v := by
  have e : k = 0 ∨ k = 1 ∨ k = 2 := by omega
  rcases e with rfl | rfl | rfl
  · exact ⟨x, .inl rfl, rfl⟩
  · exact ⟨y, .inr (.inl rfl), rfl⟩
  · exact ⟨z, .inr (.inr rfl), rfl⟩
section
variable {P : Program} {w : World} {K : PySem.W.Frag} {mg : Str → Option Value} {base : Heap} {aO aL : Addr}
def spStraight (K : PySem.W.Frag) : Sp := fun vs H Q _ => ∃ (r s : Addr) (g : GS) (lr ll ln : Addr) (us : List V), vs = [.ref r, .ref s] ∧ GenB K H r s g lr ll ln us ∧
  g.laid ≠ [] ∧ g.rows.length ≤ 1000000 ∧ g.laid.length ≤ 1000000 ∧ g.named.length ≤ 1000000 ∧
  ∀ (m : MR) (n : Int) (v : V) (H' : Hp), Strt g.laid m → GenB K H' r s { g with rows := g.rows ++ [m], laid := g.laid ++ m.lays.toList, next := n } lr ll ln (us ++ [v]) → Step r s H H' → Q .non H'
theorem scStraight : FnScope ["_law_row", "_law_s", "_law_way", "_law_ops", "_law_one", "_law_other", "_law_number", "_law_keep", "_law_cells", "_law_cell", "_law_k"] ["_law_row", "_law_s"] (defScope (topS 16)) := ⟨rfl, rfl, rfl, by decide +kernel, rfl, by decide +kernel, by decide +kernel⟩
theorem fn_straight {f : Addr} {fd : FuncData} (F : Fun K "_law_straight" "_law_straight" (topS 16) f fd) (T : Blt K mg aO aL)
    (D_taken : Dfn P w K mg base "_law_taken" 1 ["_law_row", "_law_many"] (spTaken K))
    (D_operand : Dfn P w K mg base "_law_operand" 2 ["_law_row", "_law_s"] (spOperand K))
    (D_fresh : Dfn P w K mg base "_law_fresh" 2 ["_law_row", "_law_s"] (spFresh K))
    (D_place : Dfn P w K mg base "_law_place" 2 ["_law_row", "_law_s"] (spPlace K))
    (D_lays : Dfn P w K mg base "_law_lays" 3 ["_law_row", "_law_s", "_law_middle_here"] (spLays K)) :
    FnOk P w K mg base CX0 4 f fd ["_law_row", "_law_s"] (spStraight K) := by
  have sc := scStraight
  refine F.ok sc (fun vs H Q E h => ?_) (fun cdv A outer s H vs Q E hr h => ?_)
  · obtain ⟨r, s, g, lr, ll, ln, us, rfl, _⟩ := h
    rfl
  · obtain ⟨r, s, g, lr, ll, ln, us, rfl, G, hne, hl1, hl2, hl3, k⟩ := h
    have hu := hu_of hr
    have hul : us.length = g.rows.length := G.rows.length
    refine ⟨_,
(pss_cons (ps_par rfl sc.nd (i := 2) (j := 3) rfl rfl (by decide) rfl rfl (pa_cons (pe_callD D_taken (hr.mono (by omega)) (by rfl) (pa_cons (pv 0) (pa_cons pe_int pa_nil))) (pa_cons (pe_lst (pa_cons pe_str (pa_cons pe_str (pa_cons pe_str (pa_cons pe_str (pa_cons pe_str (pa_cons pe_str (pa_cons pe_str pa_nil)))))))) pa_nil)) (by rfl))
(pss_one (ps_if (pt_cmpR op_lt (pv 2) pe_int (nomark _))
(pss_cons (ps_par rfl sc.nd (i := 4) (j := 5) rfl rfl (by decide) rfl rfl (pa_cons (pe_callD D_operand (hr.mono (by omega)) (by rfl) (pa_cons (pv 0) (pa_cons (pv 1) pa_nil))) (pa_cons (pe_callD D_operand (hr.mono (by omega)) (by rfl) (pa_cons (pv 0) (pa_cons (pv 1) pa_nil))) pa_nil)) (by rfl))
(pss_one (ps_expr (pe_callD D_lays (hr.mono (by omega)) (by rfl) (pa_cons (pv 0) (pa_cons (pv 1) (pa_cons (pe_tup (pa_cons (pe_ix ix_list (pv 3) (pe_callD D_taken (hr.mono (by omega)) (by rfl) (pa_cons (pv 0) (pa_cons pe_int pa_nil))) (fun _ _ => rfl)) (pa_cons (pe_callD D_fresh (hr.mono (by omega)) (by rfl) (pa_cons (pv 0) (pa_cons (pv 1) pa_nil))) (pa_cons (pv 4) (pa_cons (pv 5) pa_nil))))) pa_nil)))))))
(pss_one (ps_if (pt_cmpR op_eq (pv 2) pe_int (nomark _))
(pss_cons (ps_set (i := 6) sc.nd rfl (Or.inl rfl) (pe_ix ix_list (pe_lst (pa_cons (pe_callD D_taken (hr.mono (by omega)) (by rfl) (pa_cons (pv 0) (pa_cons pe_int pa_nil))) (pa_cons (pe_callD D_taken (hr.mono (by omega)) (by rfl) (pa_cons (pv 0) (pa_cons (pe_op op_pow pe_int pe_int) pa_nil))) (pa_cons (pe_op op_sub pe_int (pe_callD D_taken (hr.mono (by omega)) (by rfl) (pa_cons (pv 0) (pa_cons pe_int pa_nil)))) pa_nil)))) (pe_callD D_taken (hr.mono (by omega)) (by rfl) (pa_cons (pv 0) (pa_cons pe_int pa_nil))) (fun _ _ => rfl)))
(pss_one (ps_expr (pe_callD D_lays (hr.mono (by omega)) (by rfl) (pa_cons (pv 0) (pa_cons (pv 1) (pa_cons (pe_tup (pa_cons pe_str (pa_cons (pe_callD D_fresh (hr.mono (by omega)) (by rfl) (pa_cons (pv 0) (pa_cons (pv 1) pa_nil))) (pa_cons (pv 6) pa_nil)))) pa_nil)))))))
(pss_one (ps_if (pt_cmpR op_eq (pv 2) pe_int (nomark _))
(pss_cons (ps_set (i := 4) sc.nd rfl (Or.inl rfl) (pe_callD D_operand (hr.mono (by omega)) (by rfl) (pa_cons (pv 0) (pa_cons (pv 1) pa_nil))))
(pss_one (ps_expr (pe_callD D_lays (hr.mono (by omega)) (by rfl) (pa_cons (pv 0) (pa_cons (pv 1) (pa_cons (pe_tup (pa_cons pe_str (pa_cons (pe_callD D_fresh (hr.mono (by omega)) (by rfl) (pa_cons (pv 0) (pa_cons (pv 1) pa_nil))) (pa_cons (pv 4) pa_nil)))) pa_nil)))))))
(pss_one (ps_if (pt_cmpR op_eq (pv 2) pe_int (nomark _))
(pss_cons (ps_set (i := 7) sc.nd rfl (Or.inl rfl) (pe_ix ix_list (pe_lst (pa_cons pe_str (pa_cons pe_str pa_nil))) (pe_callD D_taken (hr.mono (by omega)) (by rfl) (pa_cons (pv 0) (pa_cons pe_int pa_nil))) (fun _ _ => rfl)))
(pss_one (ps_if (pt_cmpR op_eq (pe_callD D_taken (hr.mono (by omega)) (by rfl) (pa_cons (pv 0) (pa_cons pe_int pa_nil))) pe_int (nomark _))
(pss_one (ps_expr (pe_callD D_lays (hr.mono (by omega)) (by rfl) (pa_cons (pv 0) (pa_cons (pv 1) (pa_cons (pe_tup (pa_cons pe_str (pa_cons (pe_callD D_fresh (hr.mono (by omega)) (by rfl) (pa_cons (pv 0) (pa_cons (pv 1) pa_nil))) (pa_cons (pe_ix ix_list (pe_lst (pa_cons pe_str (pa_cons pe_str pa_nil))) (pe_callD D_taken (hr.mono (by omega)) (by rfl) (pa_cons (pv 0) (pa_cons pe_int pa_nil))) (fun _ _ => rfl)) (pa_cons (pv 7) pa_nil))))) pa_nil))))))
(pss_one (ps_expr (pe_bm PySem.F.plainAttrs_list PySem.F.slot_list_append PySem.F.type_list_append mt_append (pe_dget hu (pv 1) pe_str (fun _ _ => rfl)) (pa_cons (pe_tup (pa_cons pe_str (pa_cons (pv 7) (pa_cons (pe_callD D_operand (hr.mono (by omega)) (by rfl) (pa_cons (pv 0) (pa_cons (pv 1) pa_nil))) (pa_cons (pe_callD D_place (hr.mono (by omega)) (by rfl) (pa_cons (pv 0) (pa_cons (pv 1) pa_nil))) pa_nil))))) pa_nil)))))))
(pss_one (ps_if (pt_cmpR op_eq (pv 2) pe_int (nomark _))
(pss_one (ps_expr (pe_bm PySem.F.plainAttrs_list PySem.F.slot_list_append PySem.F.type_list_append mt_append (pe_dget hu (pv 1) pe_str (fun _ _ => rfl)) (pa_cons (pe_tup (pa_cons pe_str (pa_cons (pe_ix ix_list (pe_lst (pa_cons pe_str (pa_cons pe_str pa_nil))) (pe_callD D_taken (hr.mono (by omega)) (by rfl) (pa_cons (pv 0) (pa_cons pe_int pa_nil))) (fun _ _ => rfl)) (pa_cons (pe_callD D_operand (hr.mono (by omega)) (by rfl) (pa_cons (pv 0) (pa_cons (pv 1) pa_nil))) (pa_cons (pe_callD D_place (hr.mono (by omega)) (by rfl) (pa_cons (pv 0) (pa_cons (pv 1) pa_nil))) pa_nil))))) pa_nil))))
(pss_cons (ps_set (i := 8) sc.nd rfl (Or.inl rfl) (pe_callTy (call_tuple_of) (by rfl) T.tuple (by decide +kernel) (pa_cons (pe_lc (own := [("_law_k", 10)]) rfl sc.nd (pi_range1 (by rfl) T.range (pa_cons (pe_callD D_taken (hr.mono (by omega)) (by rfl) (pa_cons (pv 0) (pa_cons pe_int pa_nil))) pa_nil)) (blkOk_by (own := [("_law_k", 10)]) (N := ["_law_row", "_law_s", "_law_way", "_law_ops", "_law_one", "_law_other", "_law_number", "_law_keep", "_law_cells", "_law_cell", "_law_k"]) (sc := defScope (topS 16)) (by decide +kernel)) (fun _ _ _ _ _ => (pg_name (i := 10) sc.nd rfl (Or.inl rfl))) (fun _ _ _ _ _ => pts_nil) (fun _ _ _ _ _ => (pe_callD D_operand (hr.mono (by omega)) (by rfl) (pa_cons (pv 0) (pa_cons (pv 1) pa_nil))))) pa_nil)))
(pss_cons (ps_set (i := 9) sc.nd rfl (Or.inl rfl) (pe_ix ix_list (pe_lst (pa_cons pe_non (pa_cons pe_int pa_nil))) (pe_callTy (call_int1) (by rfl) T.int (by decide +kernel) (pa_cons (pe_cmpR op_gt (pe_callD D_taken (hr.mono (by omega)) (by rfl) (pa_cons (pv 0) (pa_cons pe_int pa_nil))) pe_int (nomark _)) pa_nil)) (fun _ _ => rfl)))
(pss_cons (ps_set (i := 9) sc.nd rfl (Or.inl rfl) (pe_ifExp (pt_cmpR op_isN (pv 9) pe_non (nomark _)) (pv 9) (pe_callD D_fresh (hr.mono (by omega)) (by rfl) (pa_cons (pv 0) (pa_cons (pv 1) pa_nil)))))
(pss_one (ps_expr (pe_callD D_lays (hr.mono (by omega)) (by rfl) (pa_cons (pv 0) (pa_cons (pv 1) (pa_cons (pe_tup (pa_cons pe_str (pa_cons (pv 9) (pa_cons (pe_ix ix_list (pe_lst (pa_cons pe_str (pa_cons pe_str pa_nil))) (pe_callD D_taken (hr.mono (by omega)) (by rfl) (pa_cons (pv 0) (pa_cons pe_int pa_nil))) (fun _ _ => rfl)) (pa_cons (pe_ix ix_list (pe_lst (pa_cons pe_str (pa_cons pe_str pa_nil))) (pe_callD D_taken (hr.mono (by omega)) (by rfl) (pa_cons (pv 0) (pa_cons pe_int pa_nil))) (fun _ _ => rfl)) (pa_cons (pv 8) pa_nil)))))) pa_nil))))))))))))))))))))
    , ?_⟩
    refine ⟨_, rfl, r, 10, rfl, G.row, by decide, by decide, fun k0 H1 z0 z1 o1 row1 => ⟨by show 7 ≤ sizeLine; decide, fun q hq => ⟨_, _, rfl, ?_⟩⟩⟩
    have G1 := G.off o1 row1
    have nq := new_not_fp G1 (o := .lst [V.str "add", V.str "take", V.str "times", V.str "over", V.str "rest", V.str "less", V.str "same"]) hq
    have G2 := G1.same (same_new (o := .lst [V.str "add", V.str "take", V.str "times", V.str "over", V.str "rest", V.str "less", V.str "same"]) hq)
    have S2 := (G.offS o1).trans (Step.new (r := r) (o := .lst [V.str "add", V.str "take", V.str "times", V.str "over", V.str "rest", V.str "less", V.str "same"]) hq G1.ds)
    have hq2 := @upd_same H1 q (.lst [V.str "add", V.str "take", V.str "times", V.str "over", V.str "rest", V.str "less", V.str "same"])
    generalize upd H1 q (.lst [V.str "add", V.str "take", V.str "times", V.str "over", V.str "rest", V.str "less", V.str "same"]) = H2 at nq G2 S2 hq2 ⊢
    refine ⟨_, rfl, _, _, rfl, rfl, _, rfl, ?_⟩
    refine iB (fun _ => ?_) (fun _ => ?_)
    · refine ⟨_, rfl, _, rfl, r, s, g, lr, ll, ln, us, rfl, G2, hne, hl2, fun c1 H3 hc1 G3 S3 => ⟨_, rfl, _, rfl, r, s, g, lr, ll, ln, us, rfl, G3, hne, hl2, fun c2 H4 hc2 G4 S4 => ⟨_, _, rfl, ?_⟩⟩⟩
      have hq3 := S3.keep _ _ nq hq2
      have nq3 := S3.nfp nq hq2
      have hq4 := S4.keep _ _ nq3 hq3
      have nq4 := S4.nfp nq3 hq3
      refine ⟨_, rfl, _, rfl, _, rfl, _, rfl, r, 7, rfl, G4.row, by decide, by decide, fun k1 H5 y0 y1 o5 row5 => ?_⟩
      have G5 := G4.off o5 row5
      obtain ⟨o, eo⟩ := at_ops y0 y1
      have hq5 : H5 q = _ := (o5 q (fun z => nq4 (.inl z))).trans hq4
      refine ⟨_, _, _, _, rfl, rfl, SqL.of hq5, eo, _, rfl, _, rfl, r, s, g, lr, ll, ln, us, rfl, G5, hl2, hl3, fun c n H6 G6 S6 => ⟨_, rfl, _, rfl, (by show 4 ≤ sizeLine; decide), fun t ht => ?_⟩⟩
      have G7 := G6.same (same_new (o := .tup [.str o.name, .int c, .int c1, .int c2]) ht)
      refine ⟨r, s, t, r, _, .op o c c1 c2, lr, ll, ln, us, rfl, G7, hl1, hl2, upd_same, trivial, trivial, fun v H8 G8 S8 => ?_⟩
      refine k _ n v H8 ⟨fun c hc => ?_, trivial⟩ G8 (S2.trans (S3.trans (S4.trans ((G4.offS o5).trans (S6.trans ((Step.new ht G6.ds).trans S8))))))
      simp only [MR.reads, List.mem_cons, List.mem_nil_iff, or_false] at hc
      rcases hc with rfl | rfl <;> assumption
    · refine ⟨_, rfl, rfl, _, rfl, ?_⟩
      refine iB (fun _ => ?_) (fun _ => ?_)
      · -- put
        refine ⟨_, rfl, r, 9, rfl, G2.row, by decide, by decide, fun a1 H3 y0 y1 o3 row3 => ?_⟩
        have G3 := G2.off o3 row3
        refine ⟨_, rfl, _, _, rfl, rfl, ⟨by decide, by decide, by decide⟩, r, _, rfl, row3, by decide, by decide, fun a2 H4 w0 w1 o4 row4 => ?_⟩
        have G4 := G3.off o4 row4
        refine ⟨_, rfl, r, 9, rfl, row4, by decide, by decide, fun a3 H5 x0 x1 o5 row5 => ⟨_, _, rfl, rfl, (by show 3 ≤ sizeLine; decide), fun q2 hq2 => ?_⟩⟩
        have G5 := G4.off o5 row5
        have G6 := G5.same (same_new (o := .lst [V.int a1, V.int a2, V.int (0 - a3)]) hq2)
        have S6 := (G2.offS o3).trans ((G3.offS o4).trans ((G4.offS o5).trans (Step.new (r := r) (o := .lst [V.int a1, V.int a2, V.int (0 - a3)]) hq2 G5.ds)))
        have nq6 := new_not_fp G5 (o := .lst [V.int a1, V.int a2, V.int (0 - a3)]) hq2
        refine ⟨_, rfl, r, 3, rfl, G6.row, by decide, by decide, fun a4 H7 v0 v1 o7 row7 => ?_⟩
        have G7 := G6.off o7 row7
        have e7 : H7 q2 = _ := (o7 q2 (fun z => nq6 (.inl z))).trans upd_same
        obtain ⟨n0, hn0, ea⟩ : ∃ n0 : Int, (-1000000 ≤ n0 ∧ n0 ≤ 1000000) ∧ atI [V.int a1, V.int a2, V.int (0 - a3)] a4 = some (.int n0) := by
          have pw : (10 : Int) ^ (6 : Int).toNat = 1000000 := by decide
          rw [pw] at w1
          obtain ⟨v, hv, ev⟩ := at3 (x := V.int a1) (y := V.int a2) (z := V.int (0 - a3)) v0 v1
          rcases hv with rfl | rfl | rfl
          · exact ⟨a1, by omega, ev⟩
          · exact ⟨a2, by omega, ev⟩
          · exact ⟨0 - a3, by omega, ev⟩
        refine ⟨_, _, _, _, rfl, rfl, SqL.of e7, ea, ?_⟩
        refine ⟨_, rfl, _, rfl, _, rfl, _, rfl, r, s, g, lr, ll, ln, us, rfl, G7, hl2, hl3, fun c n H8 G8 S8 => ⟨_, rfl, (by show 3 ≤ sizeLine; decide), fun t ht => ?_⟩⟩
        have G9 := G8.same (same_new (o := .tup [.str "put", .int c, .int n0]) ht)
        refine ⟨r, s, t, r, _, .put c n0, lr, ll, ln, us, rfl, G9, hl1, hl2, upd_same, trivial, trivial, fun v Hx Gx Sx => ?_⟩
        exact k _ n v Hx ⟨fun c hc => absurd hc (by simp [MR.reads]), hn0⟩ Gx (S2.trans (S6.trans ((G6.offS o7).trans (S8.trans ((Step.new ht G8.ds).trans Sx)))))
      refine ⟨_, rfl, rfl, _, rfl, ?_⟩
      refine iB (fun _ => ?_) (fun _ => ?_)
      · -- copy
        refine ⟨_, rfl, _, rfl, r, s, g, lr, ll, ln, us, rfl, G2, hne, hl2, fun c1 H3 hc1 G3 S3 => ?_⟩
        refine ⟨_, rfl, _, rfl, _, rfl, _, rfl, r, s, g, lr, ll, ln, us, rfl, G3, hl2, hl3, fun c n H8 G8 S8 => ⟨_, rfl, (by show 3 ≤ sizeLine; decide), fun t ht => ?_⟩⟩
        have G9 := G8.same (same_new (o := .tup [.str "copy", .int c, .int c1]) ht)
        refine ⟨r, s, t, r, _, .copy c c1, lr, ll, ln, us, rfl, G9, hl1, hl2, upd_same, trivial, trivial, fun v Hx Gx Sx => ?_⟩
        refine k _ n v Hx ⟨fun c hc => ?_, trivial⟩ Gx (S2.trans (S3.trans (S8.trans ((Step.new ht G8.ds).trans Sx))))
        simp only [MR.reads, List.mem_singleton] at hc
        rw [hc]
        exact hc1
      refine ⟨_, rfl, rfl, _, rfl, ?_⟩
      refine iB (fun _ => ?_) (fun _ => ?_)
      · -- fetch, lay
        refine ⟨by show 2 ≤ sizeLine; decide, fun q2 hq2 => ?_⟩
        have G3 := G2.same (same_new (o := .lst [V.str "ka", V.str "kb"]) hq2)
        have S3 := Step.new (r := r) (o := .lst [V.str "ka", V.str "kb"]) hq2 G2.ds
        have n3 := new_not_fp G2 (o := .lst [V.str "ka", V.str "kb"]) hq2
        refine ⟨_, rfl, r, 2, rfl, G3.row, by decide, by decide, fun a4 H7 v0 v1 o7 row7 => ?_⟩
        have G7 := G3.off o7 row7
        have e7 : H7 q2 = _ := (o7 q2 (fun z => n3 (.inl z))).trans upd_same
        obtain ⟨kp, kpl, ek⟩ := at2s (x := "ka") (y := "kb") v0 v1
        refine ⟨_, _, _, _, rfl, rfl, SqL.of e7, ek, ?_⟩
        have S7 := S2.trans (S3.trans (G3.offS o7))
        refine ⟨_, rfl, r, 2, rfl, G7.row, by decide, by decide, fun a5 H8 u0 u1 o8 row8 => ⟨rfl, _, rfl, ?_⟩⟩
        have G8 := G7.off o8 row8
        have S8 := S7.trans (G7.offS o8)
        refine iB (fun _ => ?_) (fun _ => ?_)
        · refine ⟨_, rfl, _, rfl, _, rfl, _, rfl, r, s, g, lr, ll, ln, us, rfl, G8, hl2, hl3, fun c n H9 G9 S9 => ⟨(by show 2 ≤ sizeLine; decide), fun q3 hq3 => ?_⟩⟩
          have G10 := G9.same (same_new (o := .lst [V.str "f", V.str "g"]) hq3)
          have S10 := S8.trans (S9.trans (Step.new (r := r) (o := .lst [V.str "f", V.str "g"]) hq3 G9.ds))
          have n10 := new_not_fp G9 (o := .lst [V.str "f", V.str "g"]) hq3
          refine ⟨_, rfl, r, 2, rfl, G10.row, by decide, by decide, fun a6 H11 t0 t1 o11 row11 => ?_⟩
          have G11 := G10.off o11 row11
          have e11 : H11 q3 = _ := (o11 q3 (fun z => n10 (.inl z))).trans upd_same
          obtain ⟨fl, fll, ef⟩ := at2s (x := "f") (y := "g") t0 t1
          refine ⟨_, _, _, _, rfl, rfl, SqL.of e11, ef, _, rfl, (by show 4 ≤ sizeLine; decide), fun t ht => ?_⟩
          have G12 := G11.same (same_new (o := .tup [.str "fetch", .int c, .str fl, .str kp]) ht)
          refine ⟨r, s, t, r, _, .fetch c fl kp, lr, ll, ln, us, rfl, G12, hl1, hl2, upd_same, trivial, trivial, fun v Hx Gx Sx => ?_⟩
          exact k (.fetch c fl kp) n v Hx ⟨fun c hc => absurd hc (by simp [MR.reads]), fll, kpl⟩ Gx (S10.trans ((G10.offS o11).trans ((Step.new ht G11.ds).trans Sx)))
        · refine ⟨_, rfl, s, _, rfl, get_rows G8.ds, .inl ⟨rfl, _, SqL.of G8.hr⟩, _, rfl, _, rfl, _, rfl, r, s, g, lr, ll, ln, us, rfl, G8, hne, hl2, fun c1 H9 hc1 G9 S9 => ?_⟩
          refine ⟨_, rfl, _, rfl, r, s, g, lr, ll, ln, us, rfl, G9, fun p H10 G10 S10 => ⟨(by show 4 ≤ sizeLine; decide), fun t ht => ?_⟩⟩
          have G11 := G10.same (same_new (o := .tup [.str "lay", .str kp, .int c1, .ref p]) ht)
          refine ⟨lr, us, _, rfl, rfl, G11.hr, szl (by omega), ?_⟩
          have e0 : g.laid ++ (MR.lay kp c1).lays.toList = g.laid := List.append_nil _
          have row : RowV (upd H10 t (.tup [.str "lay", .str kp, .int c1, .ref p])) (.ref t) (.lay kp c1) := ⟨t, t, .ref p, rfl, upd_same, trivial⟩
          refine k (.lay kp c1) g.next (.ref t) _ ⟨fun c hc => ?_, kpl⟩ ?_ (S8.trans (S9.trans (S10.trans ((Step.new ht G10.ds).trans (Step.upd G11.fr G11.sr)))))
          · simp only [MR.reads, List.mem_singleton] at hc
            rw [hc]
            exact hc1
          · rw [e0]
            exact G11.addR row
      refine ⟨_, rfl, rfl, _, rfl, ?_⟩
      refine iB (fun _ => ?_) (fun _ => ?_)
      · -- say
        refine ⟨_, rfl, s, _, rfl, get_rows G2.ds, .inl ⟨rfl, _, SqL.of G2.hr⟩, (by show 2 ≤ sizeLine; decide), fun q3 hq3 => ?_⟩
        have G3 := G2.same (same_new (o := .lst [V.str "num", V.str "yes"]) hq3)
        have S3 := S2.trans (Step.new (r := r) (o := .lst [V.str "num", V.str "yes"]) hq3 G2.ds)
        have n3 := new_not_fp G2 (o := .lst [V.str "num", V.str "yes"]) hq3
        refine ⟨_, rfl, r, 2, rfl, G3.row, by decide, by decide, fun a6 H8 t0 t1 o8 row8 => ?_⟩
        have G8 := G3.off o8 row8
        have e8 : H8 q3 = _ := (o8 q3 (fun z => n3 (.inl z))).trans upd_same
        obtain ⟨kp, kpl, ek⟩ := at2s (x := "num") (y := "yes") t0 t1
        refine ⟨_, _, _, _, rfl, rfl, SqL.of e8, ek, _, rfl, _, rfl, r, s, g, lr, ll, ln, us, rfl, G8, hne, hl2, fun c1 H9 hc1 G9 S9 => ?_⟩
        refine ⟨_, rfl, _, rfl, r, s, g, lr, ll, ln, us, rfl, G9, fun p H10 G10 S10 => ⟨(by show 4 ≤ sizeLine; decide), fun t ht => ?_⟩⟩
        have G11 := G10.same (same_new (o := .tup [.str "say", .str kp, .int c1, .ref p]) ht)
        refine ⟨lr, us, _, rfl, rfl, G11.hr, szl (by omega), ?_⟩
        have e0 : g.laid ++ (MR.say kp c1).lays.toList = g.laid := List.append_nil _
        have row : RowV (upd H10 t (.tup [.str "say", .str kp, .int c1, .ref p])) (.ref t) (.say kp c1) := ⟨t, t, .ref p, rfl, upd_same, trivial⟩
        refine k (.say kp c1) g.next (.ref t) _ ⟨fun c hc => ?_, kpl⟩ ?_ (S3.trans ((G3.offS o8).trans (S9.trans (S10.trans ((Step.new ht G10.ds).trans (Step.upd G11.fr G11.sr))))))
        · simp only [MR.reads, List.mem_singleton] at hc
          rw [hc]
          exact hc1
        · rw [e0]
          exact G11.addR row
      -- call
      refine ⟨_, rfl, r, 4, rfl, G2.row, by decide, by decide, fun a1 H3 y0 y1 o3 row3 => ⟨_, rfl, by omega, by omega, fun D hD => ?_⟩⟩
      have G3 := G2.off o3 row3
      have S3 := S2.trans (G2.offS o3)
      refine lc_range (lo := 0) (n := a1.toNat) (fun i H' => ∃ cs : List Int, H' D = some (.lst (cs.map V.int)) ∧ cs.length = i ∧ (∀ c ∈ cs, c ∈ g.laid) ∧ GenB K H' r s g lr ll ln us ∧ Step r s H3 H' ∧ ¬ Fp H' r s D) ?_ ?_ ?_
      · exact ⟨[], upd_same, rfl, fun c hc => absurd hc (by simp), G3.same (same_new hD), Step.new hD G3.ds, new_not_fp G3 hD⟩
      · rintro i H4 hi ⟨cs, hc, hlen, hmem, G4, S4, n4⟩
        refine ⟨rfl, _, rfl, _, rfl, r, s, g, lr, ll, ln, us, rfl, G4, hne, hl2, fun c1 H5 hc1 G5 S5 => ?_⟩
        have hc5 := S5.keep _ _ n4 hc
        have n5 := S5.nfp n4 hc
        have sD : s ≠ D := fun z => n5 (.inr (.inl z.symm))
        refine ⟨_, hc5, by rw [List.length_map, hlen]; exact szl (by omega), cs ++ [c1], by rw [upd_same, List.map_append]; rfl, by rw [List.length_append, hlen]; rfl, fun c hc' => ?_, ?_, ?_, ?_⟩
        · rcases List.mem_append.mp hc' with z | z
          · exact hmem c z
          · rw [List.mem_singleton.mp z]
            exact hc1
        · exact G5.other n5 hc5
        · exact (S4.trans S5).fresh hD sD
        · exact nfp_upd n5 sD
      · rintro H4 ⟨cs, hc, hlen, hmem, G4, S4, n4⟩
        refine ⟨_, _, rfl, .inl ⟨SqL.of hc, fun q3 hq3 => ?_⟩⟩
        have G5 := G4.same (same_new (o := .tup (cs.map V.int)) hq3)
        have S5 := S3.trans (S4.trans (Step.new (r := r) (o := .tup (cs.map V.int)) hq3 G4.ds))
        have hcs := @upd_same H4 q3 (.tup (cs.map V.int))
        refine ⟨(by show 2 ≤ sizeLine; decide), fun q4 hq4 => ?_⟩
        have G6 := G5.same (same_new (o := .lst [V.non, V.int 0]) hq4)
        have S6 := S5.trans (Step.new (r := r) (o := .lst [V.non, V.int 0]) hq4 G5.ds)
        have hcs6 := same_new (o := .lst [V.non, V.int 0]) hq4 _ _ hcs
        have n6 := new_not_fp G5 (o := .lst [V.non, V.int 0]) hq4
        refine ⟨_, rfl, r, 3, rfl, G6.row, by decide, by decide, fun a4 H7 v0 v1 o7 row7 => ⟨_, _, rfl, rfl, .inr ⟨_, rfl, ?_⟩⟩⟩
        have G7 := G6.off o7 row7
        have S7 := S6.trans (G6.offS o7)
        have hcs7 := (G6.offS o7).tups G6 _ _ hcs6
        have e7 : H7 q4 = _ := (o7 q4 (fun z => n6 (.inl z))).trans upd_same
        have w4 : ∃ v, (v = V.non ∨ v = V.int 0) ∧ atI [V.non, V.int 0] (if decide (0 < a4) = true then 1 else 0) = some v := by
          by_cases z : 0 < a4
          · exact ⟨_, .inr rfl, by rw [if_pos (decide_eq_true z)]; rfl⟩
          · exact ⟨_, .inl rfl, by rw [if_neg (by simpa using z)]; rfl⟩
        obtain ⟨v4, hv4, ev4⟩ := w4
        refine ⟨_, _, _, _, rfl, rfl, SqL.of e7, ev4, ?_⟩
        dsimp only [gName]
        refine seq_cut (fun σ' H' => ∃ (co : Option Int) (n : Int), σ' = [some (.ref r), some (.ref s), some (.int k0), some (.ref q), none, none, none, none, some (.ref q3), some (oV co), none] ∧
          GenB K H' r s { g with next := n } lr ll ln us ∧ Step r s H H' ∧ H' q3 = some (.tup (cs.map V.int))) ?_ (fun nx hn => ?_)
        · rintro _ H8 ⟨co, n, rfl, G8, S8, hcs8⟩
          refine ⟨_, rfl, _, rfl, _, rfl, (by show 2 ≤ sizeLine; decide), fun q5 hq5 => ?_⟩
          have G9 := G8.same (same_new (o := .lst [V.str "f", V.str "g"]) hq5)
          have S9 := S8.trans (Step.new (r := r) (o := .lst [V.str "f", V.str "g"]) hq5 G8.ds)
          have n9 := new_not_fp G8 (o := .lst [V.str "f", V.str "g"]) hq5
          have hcs9 := same_new (o := .lst [V.str "f", V.str "g"]) hq5 _ _ hcs8
          refine ⟨_, rfl, r, 2, rfl, G9.row, by decide, by decide, fun a6 H10 t0 t1 o10 row10 => ?_⟩
          have G10 := G9.off o10 row10
          have e10 : H10 q5 = _ := (o10 q5 (fun z => n9 (.inl z))).trans upd_same
          have hcs10 := (G9.offS o10).tups G9 _ _ hcs9
          obtain ⟨fl, fll, ef⟩ := at2s (x := "f") (y := "g") t0 t1
          refine ⟨_, _, _, _, rfl, rfl, SqL.of e10, ef, (by show 2 ≤ sizeLine; decide), fun q6 hq6 => ?_⟩
          have G11 := G10.same (same_new (o := .lst [V.str "da", V.str "db"]) hq6)
          have S11 := S9.trans ((G9.offS o10).trans (Step.new (r := r) (o := .lst [V.str "da", V.str "db"]) hq6 G10.ds))
          have n11 := new_not_fp G10 (o := .lst [V.str "da", V.str "db"]) hq6
          have hcs11 := same_new (o := .lst [V.str "da", V.str "db"]) hq6 _ _ hcs10
          refine ⟨_, rfl, r, 2, rfl, G11.row, by decide, by decide, fun a7 H12 s0 s1 o12 row12 => ?_⟩
          have G12 := G11.off o12 row12
          have e12 : H12 q6 = _ := (o12 q6 (fun z => n11 (.inl z))).trans upd_same
          have hcs12 := (G11.offS o12).tups G11 _ _ hcs11
          obtain ⟨nm, nml, en⟩ := at2s (x := "da") (y := "db") s0 s1
          refine ⟨_, _, _, _, rfl, rfl, SqL.of e12, en, _, rfl, (by show 5 ≤ sizeLine; decide), fun t ht => ?_⟩
          have G13 := G12.same (same_new (o := .tup [.str "call", oV co, .str fl, .str nm, .ref q3]) ht)
          refine ⟨r, s, t, q3, _, .call co fl nm cs, lr, ll, ln, us, rfl, G13, hl1, hl2, upd_same, same_new ht _ _ hcs12, trivial, fun v Hx Gx Sx => ?_⟩
          exact k (.call co fl nm cs) n v Hx ⟨fun c hc => hmem c hc, fll, nml, by rw [hlen]; omega⟩ Gx (S11.trans ((G11.offS o12).trans ((Step.new ht G12.ds).trans Sx)))
        · refine ⟨_, rfl, rfl, _, rfl, ?_⟩
          rcases hv4 with rfl | rfl
          · exact iT (by rfl) ⟨_, rfl, hn _ _ ⟨none, g.next, rfl, G7, S7, hcs7⟩⟩
          · refine iF (by rfl) ⟨_, rfl, _, rfl, r, s, g, lr, ll, ln, us, rfl, G7, hl2, hl3, fun c n H8 G8 S8 => ?_⟩
            exact hn _ _ ⟨some c, n, rfl, G8, S7.trans S8, S8.tups G7 _ _ hcs7⟩
end
end K48
set_option maxHeartbeats 8000000
set_option linter.all false
/-! blocks of rows: what is made, _law_choice -/
namespace K48
open PySem L2
/-- a block's code: cells laid ahead, labels ahead; the code; cells laid behind, labels behind -/
inductive Blk : List Int → Int → List MR → List Int → Int → Prop
  | nil (L : List Int) (n : Int) : Blk L n [] L n
  | beg {L n c L1 n1} : Blk L n c L1 n1 → Blk L n (c ++ [.beg]) L1 n1
  | str {L n c L1 n1} {m : MR} : Blk L n c L1 n1 → Strt L1 m → Blk L n (c ++ [m]) (L1 ++ m.lays.toList) n1
  | choice {L n c L1 n1 x c1 L2 n2 c2 L3 n3} : Blk L n c L1 n1 → x ∈ L1 → Blk L1 (n1 + 2) c1 L2 n2 → Blk L1 n2 c2 L3 n3 →
      Blk L n (c ++ ([.unl x n1] ++ c1 ++ [.go (n1 + 1), .label n1] ++ c2 ++ [.label (n1 + 1)])) L1 n3
  | round {L n c L1 n1 x k c1 L2 n2} : Blk L n c L1 n1 → 0 ≤ k → k ≤ 3 → Blk (L1 ++ [x, x + 1]) (n1 + 2) c1 L2 n2 →
      Blk L n (c ++ ([.put x k, .put (x + 1) 1, .label n1, .beg, .unl x (n1 + 1)] ++ c1 ++ [.op .take x x (x + 1), .go n1, .label (n1 + 1)])) (L1 ++ [x, x + 1]) n2
theorem Blk.trans {L n c L1 n1 c2 L2 n2} (a : Blk L n c L1 n1) (b : Blk L1 n1 c2 L2 n2) : Blk L n (c ++ c2) L2 n2 := by
  induction b with
  | nil => rw [List.append_nil]; exact a
  | beg _ ih => rw [← List.append_assoc]; exact .beg (ih a)
  | str _ h ih => rw [← List.append_assoc]; exact .str (ih a) h
  | choice _ hx h1 h2 ih _ _ => rw [← List.append_assoc]; exact .choice (ih a) hx h1 h2
  | round _ h0 h3 h1 ih _ => rw [← List.append_assoc]; exact .round (ih a) h0 h3 h1
theorem Blk.sub {L n c L1 n1} (a : Blk L n c L1 n1) : ∀ x ∈ L, x ∈ L1 := by
  induction a with
  | nil => exact fun _ h => h
  | beg _ ih => exact ih
  | str _ _ ih => exact fun x h => List.mem_append_left _ (ih x h)
  | choice _ _ _ _ ih _ _ => exact ih
  | round _ _ _ _ ih _ => exact fun x h => List.mem_append_left _ (ih x h)
def Bd : Nat → Nat
  | 0 => 12
  | d + 1 => 3 * (4 + (2 * Bd d + 8))
def Cd : Nat → Nat
  | 0 => 0
  | d + 1 => 2 * Bd d + 8
theorem Bd_eq (d : Nat) : Bd d = 3 * (4 + Cd d) := by cases d <;> rfl
structure Ext (B : Nat) (g g' : GS) : Prop where
  named : g'.named = g.named
  code : ∃ c, g'.rows = g.rows ++ c ∧ Blk g.laid g.labels c g'.laid g'.labels
  rl : g'.rows.length ≤ g.rows.length + B
  ll : g'.laid.length ≤ g.laid.length + B
theorem Ext.refl (g : GS) : Ext 0 g g := ⟨rfl, ⟨[], (List.append_nil _).symm, .nil _ _⟩, Nat.le_refl _, Nat.le_refl _⟩
theorem paired_two {α β : Type} {F : α → β → Prop} {xs : List α} {ys : List β} {x x' : α} {y y' : β} (h : Paired F xs ys) (a : F x y) (b : F x' y') : Paired F (xs ++ [x, x']) (ys ++ [y, y']) := by
  have := (h.snoc a).snoc b
  simpa using this
theorem Ext.num (g : GS) (a b : Int) : Ext 0 g { g with line := a, next := b } := ⟨rfl, ⟨[], (List.append_nil _).symm, .nil _ _⟩, Nat.le_refl _, Nat.le_refl _⟩
theorem Ext.trans {B B2 : Nat} {g g1 g2 : GS} (a : Ext B g g1) (b : Ext B2 g1 g2) : Ext (B + B2) g g2 := by
  obtain ⟨an, ⟨c, ac, ab⟩, ar, al⟩ := a
  obtain ⟨bn, ⟨c2, bc, bb⟩, br, bl⟩ := b
  exact ⟨bn.trans an, ⟨c ++ c2, by rw [bc, ac, List.append_assoc], ab.trans bb⟩, by omega, by omega⟩
theorem Ext.mono {B B2 : Nat} {g g1 : GS} (a : Ext B g g1) (h : B ≤ B2) : Ext B2 g g1 := ⟨a.named, a.code, by have := a.rl; omega, by have := a.ll; omega⟩
theorem Ext.ne {B : Nat} {g g1 : GS} (a : Ext B g g1) (h : g.laid ≠ []) : g1.laid ≠ [] := by
  obtain ⟨_, ⟨c, _, ab⟩, _, _⟩ := a
  obtain ⟨x, hx⟩ := List.exists_mem_of_ne_nil _ h
  exact List.ne_nil_of_mem (ab.sub x hx)
theorem Ext.str {g : GS} {m : MR} (n : Int) (h : Strt g.laid m) : Ext 1 g { g with rows := g.rows ++ [m], laid := g.laid ++ m.lays.toList, next := n } := by
  refine ⟨rfl, ⟨[m], rfl, .str (.nil _ _) h⟩, by simp, ?_⟩
  show (g.laid ++ m.lays.toList).length ≤ _
  rw [List.length_append]
  cases m.lays <;> simp
theorem Ext.beg (g : GS) (n : Int) : Ext 1 g { g with rows := g.rows ++ [.beg], line := n } := ⟨rfl, ⟨[.beg], rfl, .beg (.nil _ _)⟩, by simp, Nat.le_add_right _ _⟩
/-! more steps of the making -/
theorem Step.two {r s p : Addr} {H : Hp} {o : HO} {kvs kvs' : List (Key × V)} (hp : H p = none) (hs : H s = some (.dK kvs))
    (h : ∀ k b, (k, V.ref b) ∈ kvs' → (∃ k', (k', V.ref b) ∈ kvs) ∨ b = p) : Step r s H (L2.upd (L2.upd H p o) s (.dK kvs')) where
  keep := fun c u f e => by
    rw [upd_ne (fun z => f (.inr (.inl z))), upd_ne (ne_of_none e hp)]
    exact e
  fp := fun c f => by
    rcases f with f | f | ⟨ks, k, e, m⟩
    · exact .inl (.inl f)
    · exact .inl (.inr (.inl f))
    · rw [upd_same] at e
      cases e
      rcases h k c m with ⟨k', m'⟩ | rfl
      · exact .inl (.inr (.inr ⟨kvs, k', hs, m'⟩))
      · exact .inr hp
section
variable {K : PySem.W.Frag} {H : Hp} {r s lr ll ln : Addr} {g : GS} {vs : List V}
theorem GenB.newLS (G : GenB K H r s g lr ll ln vs) {p : Addr} {o : HO} {g' : GS} (hp : H p = none) : Step r s H (upd (upd H p o) s (.dK (kvS lr p ln g'))) := by
  refine Step.two hp G.ds fun k b m => ?_
  simp [kvS] at m
  rcases m with ⟨rfl, rfl⟩ | ⟨rfl, rfl⟩ | ⟨rfl, rfl⟩
  · exact .inl ⟨.inr "rows", by simp [kvS]⟩
  · exact .inr rfl
  · exact .inl ⟨.inr "named", by simp [kvS]⟩
theorem GenB.newRS (G : GenB K H r s g lr ll ln vs) {p : Addr} {o : HO} {g' : GS} (hp : H p = none) : Step r s H (upd (upd H p o) s (.dK (kvS p ll ln g'))) := by
  refine Step.two hp G.ds fun k b m => ?_
  simp [kvS] at m
  rcases m with ⟨rfl, rfl⟩ | ⟨rfl, rfl⟩ | ⟨rfl, rfl⟩
  · exact .inr rfl
  · exact .inl ⟨.inr "laid", by simp [kvS]⟩
  · exact .inl ⟨.inr "named", by simp [kvS]⟩
/-- the laid cells are a new list -/
theorem GenB.newL' (G : GenB K H r s g lr ll ln vs) {p : Addr} (l : List Int) (hp : H p = none) :
    GenB K (upd (upd H p (.lst (l.map V.int))) s (.dK (kvS lr p ln { g with laid := l }))) r s { g with laid := l } lr p ln vs :=
  (G.same (same_new hp)).newL upd_same (new_not_fp G hp)
/-- the rows are a new list -/
theorem GenB.newR' (G : GenB K H r s g lr ll ln vs) {p : Addr} {us : List V} {l : List MR} (hp : H p = none) (hu : Paired (RowV H) us l) :
    GenB K (upd (upd H p (.lst us)) s (.dK (kvS p ll ln { g with rows := l }))) r s { g with rows := l } p ll ln us :=
  (G.same (same_new hp)).newR upd_same (new_not_fp G hp) (rows_mono (same_new hp).tups hu)
end
theorem d6 : (6 : Nat) < sizeLine := by decide
section
variable {P : Program} {w : World} {K : PySem.W.Frag} {mg : Str → Option Value} {base : Heap} {aO aL : Addr}
def spBlock (K : PySem.W.Frag) (d : Nat) : Sp := fun vs H Q _ => ∃ (r s : Addr) (z : Int) (g : GS), vs = [.ref r, .ref s, .int z] ∧ z = (d : Int) ∧ GenAt K H r s g ∧
  g.laid ≠ [] ∧ g.rows.length + Bd d ≤ 100000 ∧ g.laid.length + Bd d ≤ 100000 ∧ g.named.length ≤ 100000 ∧
  ∀ (g' : GS) (H' : Hp), GenAt K H' r s g' → Step r s H H' → Ext (Bd d) g g' → Q .non H'
def spWay (K : PySem.W.Frag) (d : Nat) : Sp := fun vs H Q _ => ∃ (r s : Addr) (z : Int) (g : GS), vs = [.ref r, .ref s, .int z] ∧ z = (d : Int) ∧ 0 < d ∧ GenAt K H r s g ∧
  g.laid ≠ [] ∧ g.rows.length + Cd d ≤ 100000 ∧ g.laid.length + Cd d ≤ 100000 ∧ g.named.length ≤ 100000 ∧
  ∀ (g' : GS) (H' : Hp), GenAt K H' r s g' → Step r s H H' → Ext (Cd d) g g' → Q .non H'
theorem scChoice : FnScope ["_law_row", "_law_s", "_law_deep", "_law_ahead", "_law_other", "_law_end"] ["_law_row", "_law_s", "_law_deep"] (defScope (topS 18)) := ⟨rfl, rfl, rfl, by decide +kernel, rfl, by decide +kernel, by decide +kernel⟩
theorem fn_choice {f : Addr} {fd : FuncData} (d : Nat) (F : Fun K "_law_choice" "_law_choice" (topS 18) f fd) (T : Blt K mg aO aL)
    (D_taken : Dfn P w K mg base "_law_taken" 1 ["_law_row", "_law_many"] (spTaken K))
    (D_operand : Dfn P w K mg base "_law_operand" 2 ["_law_row", "_law_s"] (spOperand K))
    (D_place : Dfn P w K mg base "_law_place" 2 ["_law_row", "_law_s"] (spPlace K))
    (D_block : Dfn P w K mg base "_law_block" (5 + 2 * d) ["_law_row", "_law_s", "_law_deep"] (spBlock K d)) :
    FnOk P w K mg base CX0 (6 + 2 * d) f fd ["_law_row", "_law_s", "_law_deep"] (spWay K (d + 1)) := by
  have sc := scChoice
  refine (show FnOk P w K mg base CX0 ((5 + 2 * d) + 1) f fd ["_law_row", "_law_s", "_law_deep"] (spWay K (d + 1)) → FnOk P w K mg base CX0 (6 + 2 * d) f fd ["_law_row", "_law_s", "_law_deep"] (spWay K (d + 1)) from fun h => h.mono (by omega)) ?_
  refine F.ok sc (fun vs H Q E h => ?_) (fun cdv A outer s H vs Q E hr h => ?_)
  · obtain ⟨r, s, z, g, rfl, _⟩ := h
    rfl
  · obtain ⟨r, s, z, g, rfl, hz, _, ⟨lr, ll, ln, us, G⟩, hne, hl1, hl2, hl3, k⟩ := h
    have hu := hu_of hr
    have hul : us.length = g.rows.length := G.rows.length
    have hcd : Cd (d + 1) = 2 * Bd d + 8 := rfl
    refine ⟨_,
(pss_cons (ps_dput hu (pv 1) pe_str (pe_op op_add (pe_dget hu (pv 1) pe_str (fun _ _ => rfl)) pe_int) rfl)
(pss_cons (ps_par rfl sc.nd (i := 4) (j := 5) rfl rfl (by decide) rfl rfl (pa_cons (pe_op op_sub (pe_dget hu (pv 1) pe_str (fun _ _ => rfl)) pe_int) (pa_cons (pe_op op_sub (pe_dget hu (pv 1) pe_str (fun _ _ => rfl)) pe_int) pa_nil)) (by rfl))
(pss_cons (ps_expr (pe_bm PySem.F.plainAttrs_list PySem.F.slot_list_append PySem.F.type_list_append mt_append (pe_dget hu (pv 1) pe_str (fun _ _ => rfl)) (pa_cons (pe_tup (pa_cons pe_str (pa_cons (pe_callD D_operand (hr.mono (by omega)) (by rfl) (pa_cons (pv 0) (pa_cons (pv 1) pa_nil))) (pa_cons (pv 4) (pa_cons (pe_callD D_place (hr.mono (by omega)) (by rfl) (pa_cons (pv 0) (pa_cons (pv 1) pa_nil))) pa_nil))))) pa_nil)))
(pss_cons (ps_set (i := 3) sc.nd rfl (Or.inl rfl) (pe_callTy (call_list_of) (by rfl) T.list (by decide +kernel) (pa_cons (pe_dget hu (pv 1) pe_str (fun _ _ => rfl)) pa_nil)))
(pss_cons (ps_expr (pe_callD D_block (hr.mono (by omega)) (by rfl) (pa_cons (pv 0) (pa_cons (pv 1) (pa_cons (pe_op op_sub (pv 2) pe_int) pa_nil)))))
(pss_cons (ps_dput hu (pv 1) pe_str (pe_callTy (call_list_of) (by rfl) T.list (by decide +kernel) (pa_cons (pv 3) pa_nil)) rfl)
(pss_cons (ps_dput hu (pv 1) pe_str (pe_op op_cat (pe_dget hu (pv 1) pe_str (fun _ _ => rfl)) (pe_lst (pa_cons (pe_tup (pa_cons pe_str (pa_cons (pv 5) (pa_cons (pe_callD D_place (hr.mono (by omega)) (by rfl) (pa_cons (pv 0) (pa_cons (pv 1) pa_nil))) pa_nil)))) (pa_cons (pe_tup (pa_cons pe_str (pa_cons (pv 4) (pa_cons (pe_callD D_place (hr.mono (by omega)) (by rfl) (pa_cons (pv 0) (pa_cons (pv 1) pa_nil))) pa_nil)))) pa_nil)))) rfl)
(pss_cons (ps_if (pt_cmpR op_eq (pe_callD D_taken (hr.mono (by omega)) (by rfl) (pa_cons (pv 0) (pa_cons pe_int pa_nil))) pe_int (nomark _))
(pss_one (ps_expr (pe_callD D_block (hr.mono (by omega)) (by rfl) (pa_cons (pv 0) (pa_cons (pv 1) (pa_cons (pe_op op_sub (pv 2) pe_int) pa_nil))))))
pss_nil)
(pss_cons (ps_dput hu (pv 1) pe_str (pe_callTy (call_list_of) (by rfl) T.list (by decide +kernel) (pa_cons (pv 3) pa_nil)) rfl)
(pss_one (ps_expr (pe_bm PySem.F.plainAttrs_list PySem.F.slot_list_append PySem.F.type_list_append mt_append (pe_dget hu (pv 1) pe_str (fun _ _ => rfl)) (pa_cons (pe_tup (pa_cons pe_str (pa_cons (pv 5) (pa_cons (pe_callD D_place (hr.mono (by omega)) (by rfl) (pa_cons (pv 0) (pa_cons (pv 1) pa_nil))) pa_nil)))) pa_nil)))))))))))))
    , ?_⟩
    refine ⟨_, rfl, s, _, rfl, get_labels G.ds, _, _, rfl, rfl, _, rfl, _, _, rfl, .inl ⟨_, .inr "labels", G.ds, rfl, d6, rfl⟩, ?_⟩
    rw [put_labels]
    have S1 := G.numS { g with labels := g.labels + 2 }
    have G1 := G.num { g with labels := g.labels + 2 } rfl rfl rfl
    generalize upd H s (.dK (kvS lr ll ln { g with labels := g.labels + 2 })) = H1 at S1 G1 ⊢
    refine ⟨_, rfl, s, _, rfl, get_labels G1.ds, _, _, rfl, rfl, _, rfl, s, _, rfl, get_labels G1.ds, _, _, rfl, rfl, _, _, rfl, ?_⟩
    refine ⟨_, rfl, s, _, rfl, get_rows G1.ds, .inl ⟨rfl, _, SqL.of G1.hr⟩, _, rfl, _, rfl, r, s, _, lr, ll, ln, us, rfl, G1, hne, by show g.laid.length ≤ _; omega, fun x H2 hx G2 S2 => ?_⟩
    refine ⟨_, rfl, _, rfl, _, rfl, r, s, _, lr, ll, ln, us, rfl, G2, fun p H3 G3 S3 => ⟨(by show 4 ≤ sizeLine; decide), fun t ht => ?_⟩⟩
    have G4 := G3.same (same_new (o := .tup [.str "unless", .int x, .int (g.labels + 2 - 2), .ref p]) ht)
    have S4 := S1.trans (S2.trans (S3.trans (Step.new (r := r) (o := .tup [.str "unless", .int x, .int (g.labels + 2 - 2), .ref p]) ht G3.ds)))
    have row : RowV (upd H3 t (.tup [.str "unless", .int x, .int (g.labels + 2 - 2), .ref p])) (.ref t) (.unl x (g.labels + 2 - 2)) := ⟨t, t, .ref p, rfl, upd_same, trivial⟩
    refine ⟨lr, us, _, rfl, rfl, G4.hr, szl (by omega), ?_⟩
    have G5 := G4.addR row
    have S5 := S4.trans (Step.upd (o := .lst (us ++ [.ref t])) G4.fr G4.sr)
    generalize upd (upd H3 t (.tup [.str "unless", .int x, .int (g.labels + 2 - 2), .ref p])) lr (.lst (us ++ [.ref t])) = H5 at G5 S5 ⊢
    clear row
    refine ⟨_, rfl, s, _, rfl, get_laid G5.ds, _, _, rfl, .inl (SqL.of G5.hl), fun A hA => ?_⟩
    have nA := new_not_fp G5 (o := .lst (g.laid.map V.int)) hA
    have G6 := G5.same (same_new (o := .lst (g.laid.map V.int)) hA)
    have S6 := S5.trans (Step.new (r := r) (o := .lst (g.laid.map V.int)) hA G5.ds)
    have eA := @upd_same H5 A (.lst (g.laid.map V.int))
    have S6' : Step r s (upd H5 A (.lst (g.laid.map V.int))) (upd H5 A (.lst (g.laid.map V.int))) := Step.refl _ _ _
    generalize upd H5 A (.lst (g.laid.map V.int)) = H6 at nA G6 S6 eA ⊢
    clear S6'
    refine ⟨_, rfl, _, rfl, _, rfl, _, _, rfl, rfl, r, s, _, _, rfl, (by rw [hz]; omega), ⟨_, _, _, _, G6⟩, hne, ?_, ?_, hl3, fun g7 H7 G7 S7 X7 => ?_⟩
    · show (g.rows ++ [_]).length + Bd d ≤ 100000
      rw [List.length_append, List.length_singleton]
      omega
    · show g.laid.length + Bd d ≤ 100000
      omega
    obtain ⟨lr7, ll7, ln7, us7, G7⟩ := G7
    have eA7 := S7.keep _ _ nA eA
    have nA7 := S7.nfp nA eA
    refine ⟨_, rfl, A, _, rfl, .inl (SqL.of eA7), fun p2 hp2 => ⟨_, rfl, _, _, rfl, .inl ⟨_, .inr "laid", (G7.same (same_new hp2)).ds, rfl, d6, rfl⟩, ?_⟩⟩
    rw [put_laid (l := g.laid)]
    have G8 := G7.newL' g.laid hp2
    have S8 := G7.newLS (o := .lst (g.laid.map V.int)) (g' := { g7 with laid := g.laid }) hp2
    have eA8 := S8.keep _ _ nA7 eA7
    have nA8 := S8.nfp nA7 eA7
    generalize upd (upd H7 p2 (.lst (g.laid.map V.int))) s (.dK (kvS lr7 p2 ln7 { g7 with laid := g.laid })) = H8 at G8 S8 eA8 nA8 ⊢
    -- rows + [go, label]
    refine ⟨_, rfl, s, _, rfl, get_rows G8.ds, _, rfl, _, rfl, _, rfl, r, s, _, _, _, _, _, rfl, G8, fun p3 H9 G9 S9 => ⟨(by show 3 ≤ sizeLine; decide), fun t1 ht1 => ?_⟩⟩
    have G10 := G9.same (same_new (o := .tup [.str "go", .int (g.labels + 2 - 1), .ref p3]) ht1)
    have S10 := S9.trans (Step.new (r := r) (o := .tup [.str "go", .int (g.labels + 2 - 1), .ref p3]) ht1 G9.ds)
    have row1 : RowV (upd H9 t1 (.tup [.str "go", .int (g.labels + 2 - 1), .ref p3])) (.ref t1) (.go (g.labels + 2 - 1)) := ⟨t1, t1, .ref p3, rfl, upd_same, trivial⟩
    generalize upd H9 t1 (.tup [.str "go", .int (g.labels + 2 - 1), .ref p3]) = H10 at G10 S10 row1 ⊢
    refine ⟨_, rfl, _, rfl, _, rfl, r, s, _, _, _, _, _, rfl, G10, fun p4 H11 G11 S11 => ⟨(by show 3 ≤ sizeLine; decide), fun t2 ht2 => ?_⟩⟩
    have G12 := G11.same (same_new (o := .tup [.str "label", .int (g.labels + 2 - 2), .ref p4]) ht2)
    have S12 := S11.trans (Step.new (r := r) (o := .tup [.str "label", .int (g.labels + 2 - 2), .ref p4]) ht2 G11.ds)
    have row2 : RowV (upd H11 t2 (.tup [.str "label", .int (g.labels + 2 - 2), .ref p4])) (.ref t2) (.label (g.labels + 2 - 2)) := ⟨t2, t2, .ref p4, rfl, upd_same, trivial⟩
    have row1' := row1.mono (S12.tups G10)
    generalize upd H11 t2 (.tup [.str "label", .int (g.labels + 2 - 2), .ref p4]) = H12 at G12 S12 row2 row1' ⊢
    refine ⟨by show 2 ≤ sizeLine; decide, fun q hq => ?_⟩
    have G13 := G12.same (same_new (o := .lst [.ref t1, .ref t2]) hq)
    have hus7 : us7.length = g7.rows.length := G7.rows.length
    have hr7 : g7.rows.length ≤ g.rows.length + 1 + Bd d := by
      have := X7.rl
      simp only [List.length_append, List.length_singleton] at this
      omega
    refine ⟨lr7, q, us7, _, rfl, rfl, G13.hr, upd_same, sz (by simp only [List.length_cons, List.length_nil]; omega), fun p5 hp5 => ⟨_, rfl, _, _, rfl, .inl ⟨_, .inr "rows", (G13.same (same_new hp5)).ds, rfl, d6, rfl⟩, ?_⟩⟩
    rw [put_rows (l := g7.rows ++ [.go (g.labels + 2 - 1), .label (g.labels + 2 - 2)])]
    have G14 := G13.newR' (l := g7.rows ++ [.go (g.labels + 2 - 1), .label (g.labels + 2 - 2)]) hp5 (paired_two G13.rows (row1'.mono (same_new hq).tups) (row2.mono (same_new hq).tups))
    have S14 := S12.trans ((Step.new (r := r) (o := .lst [.ref t1, .ref t2]) hq G12.ds).trans (G13.newRS (o := .lst (us7 ++ [.ref t1, .ref t2])) (g' := { g7 with laid := g.laid, rows := g7.rows ++ [.go (g.labels + 2 - 1), .label (g.labels + 2 - 2)] }) hp5))
    have S14' : Step r s H _ := S6.trans (S7.trans (S8.trans (S10.trans S14)))
    have SA := S10.trans S14
    have eA14 := SA.keep _ _ nA8 eA8
    have nA14 := SA.nfp nA8 eA8
    generalize upd (upd (upd H12 q (.lst [.ref t1, .ref t2])) p5 (.lst (us7 ++ [.ref t1, .ref t2]))) s (.dK (kvS p5 p2 ln7 { g7 with laid := g.laid, rows := g7.rows ++ [.go (g.labels + 2 - 1), .label (g.labels + 2 - 2)] })) = H14 at G14 S14' eA14 nA14 ⊢
    dsimp only
    refine seq_cut (fun σ' H' => σ' = [some (.ref r), some (.ref s), some (.int z), some (.ref A), some (.int (g.labels + 2 - 2)), some (.int (g.labels + 2 - 1))] ∧ ∃ g' c2, GenAt K H' r s g' ∧ Step r s H H' ∧ H' A = some (.lst (g.laid.map V.int)) ∧ ¬ Fp H' r s A ∧
      g'.named = g.named ∧ g'.rows = g7.rows ++ [.go (g.labels + 2 - 1), .label (g.labels + 2 - 2)] ++ c2 ∧ Blk g.laid g7.labels c2 g'.laid g'.labels ∧ g'.rows.length ≤ g7.rows.length + 2 + Bd d) ?_ (fun nx hn => ?_)
    · rintro _ H15 ⟨rfl, g15, c2, ⟨lr15, ll15, ln15, us15, G15⟩, S15, eA15, nA15, hn15, hr15, hb15, hl15⟩
      have hus15 : us15.length = g15.rows.length := G15.rows.length
      refine ⟨_, rfl, A, _, rfl, .inl (SqL.of eA15), fun p2 hp2 => ⟨_, rfl, _, _, rfl, .inl ⟨_, .inr "laid", (G15.same (same_new hp2)).ds, rfl, d6, rfl⟩, ?_⟩⟩
      rw [put_laid (l := g.laid)]
      have G16 := G15.newL' g.laid hp2
      have S16 := S15.trans (G15.newLS (o := .lst (g.laid.map V.int)) (g' := { g15 with laid := g.laid }) hp2)
      refine ⟨_, rfl, s, _, rfl, get_rows G16.ds, .inl ⟨rfl, _, SqL.of G16.hr⟩, _, rfl, _, rfl, _, rfl, r, s, _, _, _, _, _, rfl, G16, fun p6 H17 G17 S17 => ⟨(by show 3 ≤ sizeLine; decide), fun t3 ht3 => ?_⟩⟩
      have G18 := G17.same (same_new (o := .tup [.str "label", .int (g.labels + 2 - 1), .ref p6]) ht3)
      have S18 := S16.trans (S17.trans (Step.new (r := r) (o := .tup [.str "label", .int (g.labels + 2 - 1), .ref p6]) ht3 G17.ds))
      have row3 : RowV (upd H17 t3 (.tup [.str "label", .int (g.labels + 2 - 1), .ref p6])) (.ref t3) (.label (g.labels + 2 - 1)) := ⟨t3, t3, .ref p6, rfl, upd_same, trivial⟩
      refine ⟨_, us15, _, rfl, rfl, G18.hr, szl (by omega), ?_⟩
      refine k _ _ ⟨_, _, _, _, G18.addR row3⟩ (S18.trans (Step.upd G18.fr G18.sr)) ⟨hn15, ?_, ?_, ?_⟩
      · obtain ⟨c1, e1, b1⟩ := X7.code
        have m1 : g.labels + 2 - 1 = g.labels + 1 := by omega
        have m2 : g.labels + 2 - 2 = g.labels := by omega
        refine ⟨[.unl x g.labels] ++ c1 ++ [.go (g.labels + 1), .label g.labels] ++ c2 ++ [.label (g.labels + 1)], ?_, ?_⟩
        · show g15.rows ++ [_] = _
          rw [hr15, e1, m1, m2]
          simp
        · exact Blk.choice (.nil _ _) hx b1 hb15
      · show (g15.rows ++ [_]).length ≤ _
        rw [List.length_append, List.length_singleton]
        omega
      · show g.laid.length ≤ _
        omega
    · refine ⟨_, rfl, r, 2, rfl, G14.row, by decide, by decide, fun k0 H15 z0 z1 o1 row1 => ⟨rfl, _, rfl, ?_⟩⟩
      have G15 := G14.off o1 row1
      have S15 := S14'.trans (G14.offS o1)
      have eA15 := (G14.offS o1).keep _ _ nA14 eA14
      have nA15 := (G14.offS o1).nfp nA14 eA14
      have lr14 : (g7.rows ++ [MR.go (g.labels + 2 - 1), MR.label (g.labels + 2 - 2)]).length = g7.rows.length + 2 := by simp
      refine iB (fun _ => ?_) (fun _ => ?_)
      · refine ⟨_, rfl, _, rfl, _, rfl, _, _, rfl, rfl, r, s, _, _, rfl, (by rw [hz]; omega), ⟨_, _, _, _, G15⟩, hne, ?_, ?_, ?_, fun g16 H16 G16 S16 X16 => ?_⟩
        · show (g7.rows ++ [_, _]).length + Bd d ≤ 100000
          omega
        · show g.laid.length + Bd d ≤ 100000
          omega
        · show g7.named.length ≤ 100000
          rw [X7.named]
          exact hl3
        · obtain ⟨c2, e2, b2⟩ := X16.code
          have h16 : g16.rows.length ≤ (g7.rows ++ [MR.go (g.labels + 2 - 1), MR.label (g.labels + 2 - 2)]).length + Bd d := X16.rl
          rw [lr14] at h16
          exact hn _ _ ⟨rfl, g16, c2, G16, S15.trans S16, S16.keep _ _ nA15 eA15, S16.nfp nA15 eA15, X16.named.trans X7.named, e2, b2, by omega⟩
      · exact hn _ _ ⟨rfl, _, [], ⟨_, _, _, _, G15⟩, S15, eA15, nA15, X7.named, (List.append_nil _).symm, .nil _ _, by show (g7.rows ++ [_, _]).length ≤ _; omega⟩
end
end K48
set_option maxHeartbeats 8000000
set_option linter.all false
/-! _law_round -/
namespace K48
open PySem L2
section
variable {P : Program} {w : World} {K : PySem.W.Frag} {mg : Str → Option Value} {base : Heap} {aO aL : Addr}
theorem scRound : FnScope ["_law_row", "_law_s", "_law_deep", "_law_ahead", "_law_head", "_law_end", "_law_count"] ["_law_row", "_law_s", "_law_deep"] (defScope (topS 19)) := ⟨rfl, rfl, rfl, by decide +kernel, rfl, by decide +kernel, by decide +kernel⟩
theorem fn_round {f : Addr} {fd : FuncData} (d : Nat) (F : Fun K "_law_round" "_law_round" (topS 19) f fd) (T : Blt K mg aO aL)
    (D_taken : Dfn P w K mg base "_law_taken" 1 ["_law_row", "_law_many"] (spTaken K))
    (D_place : Dfn P w K mg base "_law_place" 2 ["_law_row", "_law_s"] (spPlace K))
    (D_lays : Dfn P w K mg base "_law_lays" 3 ["_law_row", "_law_s", "_law_middle_here"] (spLays K))
    (D_block : Dfn P w K mg base "_law_block" (5 + 2 * d) ["_law_row", "_law_s", "_law_deep"] (spBlock K d)) :
    FnOk P w K mg base CX0 (6 + 2 * d) f fd ["_law_row", "_law_s", "_law_deep"] (spWay K (d + 1)) := by
  have sc := scRound
  refine (show FnOk P w K mg base CX0 ((5 + 2 * d) + 1) f fd ["_law_row", "_law_s", "_law_deep"] (spWay K (d + 1)) → FnOk P w K mg base CX0 (6 + 2 * d) f fd ["_law_row", "_law_s", "_law_deep"] (spWay K (d + 1)) from fun h => h.mono (by omega)) ?_
  refine F.ok sc (fun vs H Q E h => ?_) (fun cdv A outer s H vs Q E hr h => ?_)
  · obtain ⟨r, s, z, g, rfl, _⟩ := h
    rfl
  · obtain ⟨r, s, z, g, rfl, hz, _, ⟨lr, ll, ln, us, G⟩, hne, hl1, hl2, hl3, k⟩ := h
    have hu := hu_of hr
    have hul : us.length = g.rows.length := G.rows.length
    have hcd : Cd (d + 1) = 2 * Bd d + 8 := rfl
    refine ⟨_,
(pss_cons (ps_dput hu (pv 1) pe_str (pe_op op_add (pe_dget hu (pv 1) pe_str (fun _ _ => rfl)) pe_int) rfl)
(pss_cons (ps_par3 rfl sc.nd (i := 4) (j := 5) (l := 6) rfl rfl rfl (by decide) (by decide) (by decide) rfl rfl rfl (pa_cons (pe_op op_sub (pe_dget hu (pv 1) pe_str (fun _ _ => rfl)) pe_int) (pa_cons (pe_op op_sub (pe_dget hu (pv 1) pe_str (fun _ _ => rfl)) pe_int) (pa_cons (pe_dget hu (pv 1) pe_str (fun _ _ => rfl)) pa_nil))) (by rfl))
(pss_cons (ps_dput hu (pv 1) pe_str (pe_op op_add (pv 6) pe_int) rfl)
(pss_cons (ps_expr (pe_callD D_lays (hr.mono (by omega)) (by rfl) (pa_cons (pv 0) (pa_cons (pv 1) (pa_cons (pe_tup (pa_cons pe_str (pa_cons (pv 6) (pa_cons (pe_callD D_taken (hr.mono (by omega)) (by rfl) (pa_cons (pv 0) (pa_cons pe_int pa_nil))) pa_nil)))) pa_nil)))))
(pss_cons (ps_expr (pe_callD D_lays (hr.mono (by omega)) (by rfl) (pa_cons (pv 0) (pa_cons (pv 1) (pa_cons (pe_tup (pa_cons pe_str (pa_cons (pe_op op_add (pv 6) pe_int) (pa_cons pe_int pa_nil)))) pa_nil)))))
(pss_cons (ps_expr (pe_bm PySem.F.plainAttrs_list PySem.F.slot_list_append PySem.F.type_list_append mt_append (pe_dget hu (pv 1) pe_str (fun _ _ => rfl)) (pa_cons (pe_tup (pa_cons pe_str (pa_cons (pv 4) (pa_cons (pe_callD D_place (hr.mono (by omega)) (by rfl) (pa_cons (pv 0) (pa_cons (pv 1) pa_nil))) pa_nil)))) pa_nil)))
(pss_cons (ps_dput hu (pv 1) pe_str (pe_op op_add (pe_dget hu (pv 1) pe_str (fun _ _ => rfl)) pe_int) rfl)
(pss_cons (ps_expr (pe_bm PySem.F.plainAttrs_list PySem.F.slot_list_append PySem.F.type_list_append mt_append (pe_dget hu (pv 1) pe_str (fun _ _ => rfl)) (pa_cons (pe_tup (pa_cons pe_str (pa_cons (pe_tup (pa_cons (pe_dget hu (pv 1) pe_str (fun _ _ => rfl)) (pa_cons pe_int pa_nil))) pa_nil))) pa_nil)))
(pss_cons (ps_expr (pe_bm PySem.F.plainAttrs_list PySem.F.slot_list_append PySem.F.type_list_append mt_append (pe_dget hu (pv 1) pe_str (fun _ _ => rfl)) (pa_cons (pe_tup (pa_cons pe_str (pa_cons (pv 6) (pa_cons (pv 5) (pa_cons (pe_callD D_place (hr.mono (by omega)) (by rfl) (pa_cons (pv 0) (pa_cons (pv 1) pa_nil))) pa_nil))))) pa_nil)))
(pss_cons (ps_set (i := 3) sc.nd rfl (Or.inl rfl) (pe_callTy (call_list_of) (by rfl) T.list (by decide +kernel) (pa_cons (pe_dget hu (pv 1) pe_str (fun _ _ => rfl)) pa_nil)))
(pss_cons (ps_expr (pe_callD D_block (hr.mono (by omega)) (by rfl) (pa_cons (pv 0) (pa_cons (pv 1) (pa_cons (pe_op op_sub (pv 2) pe_int) pa_nil)))))
(pss_cons (ps_dput hu (pv 1) pe_str (pe_callTy (call_list_of) (by rfl) T.list (by decide +kernel) (pa_cons (pv 3) pa_nil)) rfl)
(pss_cons (ps_expr (pe_bm PySem.F.plainAttrs_list PySem.F.slot_list_append PySem.F.type_list_append mt_append (pe_dget hu (pv 1) pe_str (fun _ _ => rfl)) (pa_cons (pe_tup (pa_cons pe_str (pa_cons (pv 6) (pa_cons (pv 6) (pa_cons (pe_op op_add (pv 6) pe_int) (pa_cons (pe_callD D_place (hr.mono (by omega)) (by rfl) (pa_cons (pv 0) (pa_cons (pv 1) pa_nil))) pa_nil)))))) pa_nil)))
(pss_one (ps_dput hu (pv 1) pe_str (pe_op op_cat (pe_dget hu (pv 1) pe_str (fun _ _ => rfl)) (pe_lst (pa_cons (pe_tup (pa_cons pe_str (pa_cons (pv 4) (pa_cons (pe_callD D_place (hr.mono (by omega)) (by rfl) (pa_cons (pv 0) (pa_cons (pv 1) pa_nil))) pa_nil)))) (pa_cons (pe_tup (pa_cons pe_str (pa_cons (pv 5) (pa_cons (pe_callD D_place (hr.mono (by omega)) (by rfl) (pa_cons (pv 0) (pa_cons (pv 1) pa_nil))) pa_nil)))) pa_nil)))) rfl)))))))))))))))
    , ?_⟩
    -- the labels
    refine ⟨_, rfl, s, _, rfl, get_labels G.ds, _, _, rfl, rfl, _, rfl, _, _, rfl, .inl ⟨_, .inr "labels", G.ds, rfl, d6, rfl⟩, ?_⟩
    rw [put_labels]
    have S1 := G.numS { g with labels := g.labels + 2 }
    have G1 := G.num { g with labels := g.labels + 2 } rfl rfl rfl
    generalize upd H s (.dK (kvS lr ll ln { g with labels := g.labels + 2 })) = H1 at S1 G1 ⊢
    refine ⟨_, rfl, s, _, rfl, get_labels G1.ds, _, _, rfl, rfl, _, rfl, s, _, rfl, get_labels G1.ds, _, _, rfl, rfl, _, rfl, s, _, rfl, get_next G1.ds, _, _, _, rfl, ?_⟩
    -- next
    refine ⟨_, rfl, _, _, rfl, rfl, _, rfl, _, _, rfl, .inl ⟨_, .inr "next", G1.ds, rfl, d6, rfl⟩, ?_⟩
    rw [put_next]
    have S2 := S1.trans (G1.numS { g with labels := g.labels + 2, next := g.next + 2 })
    have G2 := G1.num { g with labels := g.labels + 2, next := g.next + 2 } rfl rfl rfl
    generalize upd H1 s (.dK (kvS lr ll ln _)) = H2 at S2 G2 ⊢
    -- two puts
    refine ⟨_, rfl, _, rfl, _, rfl, _, rfl, r, 4, rfl, G2.row, by decide, by decide, fun k0 H3 z0 z1 o3 row3 => ⟨(by show 3 ≤ sizeLine; decide), fun t ht => ?_⟩⟩
    have G3 := G2.off o3 row3
    have S3 := S2.trans (G2.offS o3)
    have G4 := G3.same (same_new (o := .tup [.str "put", .int g.next, .int k0]) ht)
    refine ⟨r, s, t, r, _, .put g.next k0, lr, ll, ln, us, rfl, G4, by show g.rows.length ≤ _; omega, by show g.laid.length ≤ _; omega, upd_same, trivial, trivial, fun v1 H5 G5 S5 => ?_⟩
    have S5' := S3.trans ((Step.new ht G3.ds).trans S5)
    clear S5 G4
    refine ⟨_, rfl, _, rfl, _, rfl, _, _, rfl, rfl, (by show 3 ≤ sizeLine; decide), fun t2 ht2 => ?_⟩
    have G6 := G5.same (same_new (o := .tup [.str "put", .int (g.next + 1), .int 1]) ht2)
    refine ⟨r, s, t2, r, _, .put (g.next + 1) 1, lr, ll, ln, _, rfl, G6, ?_, ?_, upd_same, trivial, trivial, fun v2 H7 G7 S7 => ?_⟩
    · show (g.rows ++ [_]).length ≤ _
      rw [List.length_append, List.length_singleton]
      omega
    · show (g.laid ++ [_]).length ≤ _
      rw [List.length_append, List.length_singleton]
      omega
    have S7' := S5'.trans ((Step.new ht2 G5.ds).trans S7)
    clear S7 G6 S5'
    have G8 : GenB K H7 r s { g with rows := g.rows ++ [.put g.next k0, .put (g.next + 1) 1], labels := g.labels + 2, next := g.next + 2, laid := g.laid ++ [g.next, g.next + 1] } lr ll ln (us ++ [v1, v2]) := by
      have := G7
      simp only [MR.lays, Option.toList, List.append_assoc, List.singleton_append] at this
      exact this
    clear G7 G5
    -- the label
    refine ⟨_, rfl, s, _, rfl, get_rows G8.ds, .inl ⟨rfl, _, SqL.of G8.hr⟩, _, rfl, _, rfl, _, rfl, r, s, _, lr, ll, ln, _, rfl, G8, fun p1 H9 G9 S9 => ⟨(by show 3 ≤ sizeLine; decide), fun t3 ht3 => ?_⟩⟩
    have G10 := G9.same (same_new (o := .tup [.str "label", .int (g.labels + 2 - 2), .ref p1]) ht3)
    have row1 : RowV (upd H9 t3 (.tup [.str "label", .int (g.labels + 2 - 2), .ref p1])) (.ref t3) (.label (g.labels + 2 - 2)) := ⟨t3, t3, .ref p1, rfl, upd_same, trivial⟩
    refine ⟨lr, _, _, rfl, rfl, G10.hr, szl (by simp only [List.length_append, List.length_cons, List.length_nil]; omega), ?_⟩
    have G11 := G10.addR row1
    have S11 := S7'.trans (S9.trans ((Step.new ht3 G9.ds).trans (Step.upd (o := .lst ((us ++ [v1, v2]) ++ [.ref t3])) G10.fr G10.sr)))
    generalize upd (upd H9 t3 (.tup [.str "label", .int (g.labels + 2 - 2), .ref p1])) lr (.lst ((us ++ [v1, v2]) ++ [.ref t3])) = H11 at G11 S11 ⊢
    clear row1 G10 S9
    -- the line
    refine ⟨_, rfl, s, _, rfl, get_line G11.ds, _, _, rfl, rfl, _, rfl, _, _, rfl, .inl ⟨_, .inr "line", G11.ds, rfl, d6, rfl⟩, ?_⟩
    rw [put_line]
    have S12 := S11.trans (G11.numS { g with rows := (g.rows ++ [.put g.next k0, .put (g.next + 1) 1]) ++ [.label (g.labels + 2 - 2)], labels := g.labels + 2, next := g.next + 2, laid := g.laid ++ [g.next, g.next + 1], line := g.line + 1 })
    have G12 := G11.num { g with rows := (g.rows ++ [.put g.next k0, .put (g.next + 1) 1]) ++ [.label (g.labels + 2 - 2)], labels := g.labels + 2, next := g.next + 2, laid := g.laid ++ [g.next, g.next + 1], line := g.line + 1 } rfl rfl rfl
    generalize upd H11 s (.dK (kvS lr ll ln _)) = H12 at S12 G12 ⊢
    -- begin
    refine ⟨_, rfl, s, _, rfl, get_rows G12.ds, .inl ⟨rfl, _, SqL.of G12.hr⟩, _, rfl, s, _, rfl, get_line G12.ds, (by show 2 ≤ sizeLine; decide), fun t4 ht4 => ⟨(by show 2 ≤ sizeLine; decide), fun t5 ht5 => ?_⟩⟩
    have G13 := G12.same (same_new (o := .tup [.int (g.line + 1), .int 3]) ht4)
    have G14 := G13.same (same_new (o := .tup [.str "begin", .ref t4]) ht5)
    have row2 : RowV (upd (upd H12 t4 (.tup [.int (g.line + 1), .int 3])) t5 (.tup [.str "begin", .ref t4])) (.ref t5) .beg := ⟨t5, t5, .ref t4, rfl, upd_same, trivial⟩
    refine ⟨lr, _, _, rfl, rfl, G14.hr, szl (by simp only [List.length_append, List.length_cons, List.length_nil]; omega), ?_⟩
    have G15 := G14.addR row2
    have S15 := S12.trans ((Step.new (r := r) (o := .tup [.int (g.line + 1), .int 3]) ht4 G12.ds).trans ((Step.new (r := r) (o := .tup [.str "begin", .ref t4]) ht5 G13.ds).trans (Step.upd (o := .lst (((us ++ [v1, v2]) ++ [.ref t3]) ++ [.ref t5])) G14.fr G14.sr)))
    generalize upd (upd (upd H12 t4 (.tup [.int (g.line + 1), .int 3])) t5 (.tup [.str "begin", .ref t4])) lr (.lst (((us ++ [v1, v2]) ++ [.ref t3]) ++ [.ref t5])) = H15 at G15 S15 ⊢
    clear row2 G14 G13
    -- unless
    refine ⟨_, rfl, s, _, rfl, get_rows G15.ds, .inl ⟨rfl, _, SqL.of G15.hr⟩, _, rfl, _, rfl, _, rfl, _, rfl, r, s, _, lr, ll, ln, _, rfl, G15, fun p2 H16 G16 S16 => ⟨(by show 4 ≤ sizeLine; decide), fun t6 ht6 => ?_⟩⟩
    have G17 := G16.same (same_new (o := .tup [.str "unless", .int g.next, .int (g.labels + 2 - 1), .ref p2]) ht6)
    have row3 : RowV (upd H16 t6 (.tup [.str "unless", .int g.next, .int (g.labels + 2 - 1), .ref p2])) (.ref t6) (.unl g.next (g.labels + 2 - 1)) := ⟨t6, t6, .ref p2, rfl, upd_same, trivial⟩
    refine ⟨lr, _, _, rfl, rfl, G17.hr, szl (by simp only [List.length_append, List.length_cons, List.length_nil]; omega), ?_⟩
    have G18 := G17.addR row3
    have S18 := S15.trans (S16.trans ((Step.new ht6 G16.ds).trans (Step.upd (o := .lst ((((us ++ [v1, v2]) ++ [.ref t3]) ++ [.ref t5]) ++ [.ref t6])) G17.fr G17.sr)))
    generalize upd (upd H16 t6 (.tup [.str "unless", .int g.next, .int (g.labels + 2 - 1), .ref p2])) lr (.lst ((((us ++ [v1, v2]) ++ [.ref t3]) ++ [.ref t5]) ++ [.ref t6])) = H18 at G18 S18 ⊢
    clear row3 G17 S16
    obtain ⟨us18, hus18, G18⟩ : ∃ us18 : List V, us18.length = us.length + 5 ∧ GenB K H18 r s { g with rows := g.rows ++ [.put g.next k0, .put (g.next + 1) 1, .label (g.labels + 2 - 2), .beg, .unl g.next (g.labels + 2 - 1)], labels := g.labels + 2, next := g.next + 2, laid := g.laid ++ [g.next, g.next + 1], line := g.line + 1 } lr ll ln us18 := by
      refine ⟨_, ?_, by simpa only [List.append_assoc, List.cons_append, List.nil_append] using G18⟩
      simp
    have lr18 : (g.rows ++ [MR.put g.next k0, .put (g.next + 1) 1, .label (g.labels + 2 - 2), .beg, .unl g.next (g.labels + 2 - 1)]).length = g.rows.length + 5 := by simp
    have ll18 : (g.laid ++ [g.next, g.next + 1]).length = g.laid.length + 2 := by simp
    generalize hL : g.laid ++ [g.next, g.next + 1] = L at G18 ll18
    generalize hR : g.rows ++ [MR.put g.next k0, .put (g.next + 1) 1, .label (g.labels + 2 - 2), .beg, .unl g.next (g.labels + 2 - 1)] = R at G18 lr18
    -- ahead, the block
    refine ⟨_, rfl, s, _, rfl, get_laid G18.ds, _, _, rfl, .inl (SqL.of G18.hl), fun A hA => ?_⟩
    have nA := new_not_fp G18 (o := .lst (L.map V.int)) hA
    have G19 := G18.same (same_new (o := .lst (L.map V.int)) hA)
    have S19 := S18.trans (Step.new (r := r) (o := .lst (L.map V.int)) hA G18.ds)
    have eA := @upd_same H18 A (.lst (L.map V.int))
    generalize upd H18 A (.lst (L.map V.int)) = H19 at nA G19 S19 eA ⊢
    refine ⟨_, rfl, _, rfl, _, rfl, _, _, rfl, rfl, r, s, _, _, rfl, (by rw [hz]; omega), ⟨_, _, _, _, G19⟩, ?_, ?_, ?_, hl3, fun g7 H7 G7 S7 X7 => ?_⟩
    · show L ≠ []
      intro e
      rw [e] at ll18
      simp at ll18
    · show R.length + Bd d ≤ 100000
      omega
    · show L.length + Bd d ≤ 100000
      omega
    obtain ⟨lr7, ll7, ln7, us7, G7⟩ := G7
    have eA7 := S7.keep _ _ nA eA
    have hus7 : us7.length = g7.rows.length := G7.rows.length
    have hr7 : g7.rows.length ≤ R.length + Bd d := X7.rl
    refine ⟨_, rfl, A, _, rfl, .inl (SqL.of eA7), fun p2 hp2 => ⟨_, rfl, _, _, rfl, .inl ⟨_, .inr "laid", (G7.same (same_new hp2)).ds, rfl, d6, rfl⟩, ?_⟩⟩
    rw [put_laid (l := L)]
    have G8 := G7.newL' L hp2
    have S8 := S19.trans (S7.trans (G7.newLS (o := .lst (L.map V.int)) (g' := { g7 with laid := L }) hp2))
    generalize upd (upd H7 p2 (.lst (L.map V.int))) s (.dK (kvS lr7 p2 ln7 { g7 with laid := L })) = H8 at G8 S8 ⊢
    -- take
    refine ⟨_, rfl, s, _, rfl, get_rows G8.ds, .inl ⟨rfl, _, SqL.of G8.hr⟩, _, rfl, _, rfl, _, rfl, _, _, rfl, rfl, _, rfl, _, rfl, r, s, _, _, _, _, _, rfl, G8, fun p3 H9 G9 S9 => ⟨(by show 5 ≤ sizeLine; decide), fun t1 ht1 => ?_⟩⟩
    have G10 := G9.same (same_new (o := .tup [.str "take", .int g.next, .int g.next, .int (g.next + 1), .ref p3]) ht1)
    have S10 := S8.trans (S9.trans (Step.new (r := r) (o := .tup [.str "take", .int g.next, .int g.next, .int (g.next + 1), .ref p3]) ht1 G9.ds))
    have row1 : RowV (upd H9 t1 (.tup [.str "take", .int g.next, .int g.next, .int (g.next + 1), .ref p3])) (.ref t1) (.op .take g.next g.next (g.next + 1)) := ⟨t1, t1, .ref p3, rfl, upd_same, trivial⟩
    refine ⟨lr7, us7, _, rfl, rfl, G10.hr, szl (by omega), ?_⟩
    have G11 := G10.addR row1
    have S11 := S10.trans (Step.upd (o := .lst (us7 ++ [.ref t1])) G10.fr G10.sr)
    generalize upd (upd H9 t1 (.tup [.str "take", .int g.next, .int g.next, .int (g.next + 1), .ref p3])) lr7 (.lst (us7 ++ [.ref t1])) = H11 at G11 S11 ⊢
    clear row1 G10
    -- go, label
    refine ⟨_, rfl, s, _, rfl, get_rows G11.ds, _, rfl, _, rfl, _, rfl, r, s, _, _, _, _, _, rfl, G11, fun p4 H12 G12 S12 => ⟨(by show 3 ≤ sizeLine; decide), fun t2 ht2 => ?_⟩⟩
    have G13 := G12.same (same_new (o := .tup [.str "go", .int (g.labels + 2 - 2), .ref p4]) ht2)
    have S13 := S11.trans (S12.trans (Step.new (r := r) (o := .tup [.str "go", .int (g.labels + 2 - 2), .ref p4]) ht2 G12.ds))
    have row2 : RowV (upd H12 t2 (.tup [.str "go", .int (g.labels + 2 - 2), .ref p4])) (.ref t2) (.go (g.labels + 2 - 2)) := ⟨t2, t2, .ref p4, rfl, upd_same, trivial⟩
    generalize upd H12 t2 (.tup [.str "go", .int (g.labels + 2 - 2), .ref p4]) = H13 at G13 S13 row2 ⊢
    refine ⟨_, rfl, _, rfl, _, rfl, r, s, _, _, _, _, _, rfl, G13, fun p5 H14 G14 S14 => ⟨(by show 3 ≤ sizeLine; decide), fun t3 ht3 => ?_⟩⟩
    have G15 := G14.same (same_new (o := .tup [.str "label", .int (g.labels + 2 - 1), .ref p5]) ht3)
    have S15 := S14.trans (Step.new (r := r) (o := .tup [.str "label", .int (g.labels + 2 - 1), .ref p5]) ht3 G14.ds)
    have row3 : RowV (upd H14 t3 (.tup [.str "label", .int (g.labels + 2 - 1), .ref p5])) (.ref t3) (.label (g.labels + 2 - 1)) := ⟨t3, t3, .ref p5, rfl, upd_same, trivial⟩
    have row2' := row2.mono (S15.tups G13)
    generalize upd H14 t3 (.tup [.str "label", .int (g.labels + 2 - 1), .ref p5]) = H15 at G15 S15 row3 row2' ⊢
    refine ⟨by show 2 ≤ sizeLine; decide, fun q hq => ?_⟩
    have G16 := G15.same (same_new (o := .lst [.ref t2, .ref t3]) hq)
    refine ⟨lr7, q, _, _, rfl, rfl, G16.hr, upd_same, sz (by simp only [List.length_append, List.length_cons, List.length_nil]; omega), fun p6 hp6 => ⟨_, rfl, _, _, rfl, .inl ⟨_, .inr "rows", (G16.same (same_new hp6)).ds, rfl, d6, rfl⟩, ?_⟩⟩
    rw [put_rows (l := (g7.rows ++ [.op .take g.next g.next (g.next + 1)]) ++ [.go (g.labels + 2 - 2), .label (g.labels + 2 - 1)])]
    have G17 := G16.newR' (l := (g7.rows ++ [.op .take g.next g.next (g.next + 1)]) ++ [.go (g.labels + 2 - 2), .label (g.labels + 2 - 1)]) hp6 (paired_two G16.rows (row2'.mono (same_new hq).tups) (row3.mono (same_new hq).tups))
    have S17 := S13.trans (S15.trans ((Step.new (r := r) (o := .lst [.ref t2, .ref t3]) hq G15.ds).trans (G16.newRS (o := .lst ((us7 ++ [.ref t1]) ++ [.ref t2, .ref t3])) (g' := { g7 with laid := L, rows := (g7.rows ++ [.op .take g.next g.next (g.next + 1)]) ++ [.go (g.labels + 2 - 2), .label (g.labels + 2 - 1)] }) hp6)))
    refine k _ _ ⟨_, _, _, _, G17⟩ S17 ⟨X7.named, ?_, ?_, ?_⟩
    · obtain ⟨c1, e1, b1⟩ := X7.code
      have m1 : g.labels + 2 - 1 = g.labels + 1 := by omega
      have m2 : g.labels + 2 - 2 = g.labels := by omega
      refine ⟨[.put g.next k0, .put (g.next + 1) 1, .label g.labels, .beg, .unl g.next (g.labels + 1)] ++ c1 ++ [.op .take g.next g.next (g.next + 1), .go g.labels, .label (g.labels + 1)], ?_, ?_⟩
      · show (g7.rows ++ [_]) ++ [_, _] = _
        have e1' : g7.rows = R ++ c1 := e1
        rw [e1', ← hR, m1, m2]
        simp
      · have b1' : Blk L (g.labels + 2) c1 g7.laid g7.labels := b1
        show Blk g.laid g.labels _ L g7.labels
        rw [← hL] at b1' ⊢
        exact Blk.round (.nil _ _) z0 (by omega) b1'
    · show ((g7.rows ++ [_]) ++ [_, _]).length ≤ _
      simp only [List.length_append, List.length_cons, List.length_nil]
      omega
    · show L.length ≤ _
      omega
end
end K48
set_option maxHeartbeats 8000000
set_option linter.all false
/-! _law_block -/
namespace K48
open PySem L2
section
variable {P : Program} {w : World} {K : PySem.W.Frag} {mg : Str → Option Value} {base : Heap} {aO aL : Addr}
theorem scBlock : FnScope ["_law_row", "_law_s", "_law_deep", "_law_again", "_law_more", "_law_way"] ["_law_row", "_law_s", "_law_deep"] (defScope (topS 17)) := ⟨rfl, rfl, rfl, by decide +kernel, rfl, by decide +kernel, by decide +kernel⟩
theorem fn_block {f : Addr} {fd : FuncData} (d : Nat) (F : Fun K "_law_block" "_law_block" (topS 17) f fd) (T : Blt K mg aO aL)
    (D_taken : Dfn P w K mg base "_law_taken" 1 ["_law_row", "_law_many"] (spTaken K))
    (D_straight : Dfn P w K mg base "_law_straight" 4 ["_law_row", "_law_s"] (spStraight K))
    (D_choice : Dfn P w K mg base "_law_choice" (4 + 2 * d) ["_law_row", "_law_s", "_law_deep"] (spWay K d))
    (D_round : Dfn P w K mg base "_law_round" (4 + 2 * d) ["_law_row", "_law_s", "_law_deep"] (spWay K d)) :
    FnOk P w K mg base CX0 (5 + 2 * d) f fd ["_law_row", "_law_s", "_law_deep"] (spBlock K d) := by
  have sc := scBlock
  refine (show FnOk P w K mg base CX0 ((4 + 2 * d) + 1) f fd ["_law_row", "_law_s", "_law_deep"] (spBlock K d) → FnOk P w K mg base CX0 (5 + 2 * d) f fd ["_law_row", "_law_s", "_law_deep"] (spBlock K d) from fun h => h.mono (by omega)) ?_
  refine F.ok sc (fun vs H Q E h => ?_) (fun cdv A outer s H vs Q E hr h => ?_)
  · obtain ⟨r, s, z, g, rfl, _⟩ := h
    rfl
  · obtain ⟨r, s, z, g, rfl, hz, ⟨lr, ll, ln, us, G⟩, hne, hl1, hl2, hl3, k⟩ := h
    have hu := hu_of hr
    have hB := Bd_eq d
    refine ⟨_,
(pss_one (ps_for PassesOwn.never rfl (pi_range1 (by rfl) T.range (pa_cons (pe_op op_add pe_int (pe_callD D_taken (hr.mono (by omega)) (by rfl) (pa_cons (pv 0) (pa_cons pe_int pa_nil)))) pa_nil)) (pg_name (i := 3) sc.nd rfl (Or.inl rfl))
(pss_cons (ps_dput hu (pv 1) pe_str (pe_op op_add (pe_dget hu (pv 1) pe_str (fun _ _ => rfl)) pe_int) rfl)
(pss_cons (ps_expr (pe_bm PySem.F.plainAttrs_list PySem.F.slot_list_append PySem.F.type_list_append mt_append (pe_dget hu (pv 1) pe_str (fun _ _ => rfl)) (pa_cons (pe_tup (pa_cons pe_str (pa_cons (pe_tup (pa_cons (pe_dget hu (pv 1) pe_str (fun _ _ => rfl)) (pa_cons pe_int pa_nil))) pa_nil))) pa_nil)))
(pss_cons (ps_for PassesOwn.never rfl (pi_range1 (by rfl) T.range (pa_cons (pe_op op_add pe_int (pe_callD D_taken (hr.mono (by omega)) (by rfl) (pa_cons (pv 0) (pa_cons pe_int pa_nil)))) pa_nil)) (pg_name (i := 4) sc.nd rfl (Or.inl rfl))
(pss_one (ps_expr (pe_callD D_straight (hr.mono (by omega)) (by rfl) (pa_cons (pv 0) (pa_cons (pv 1) pa_nil))))))
(pss_cons (ps_set (i := 5) sc.nd rfl (Or.inl rfl) (pe_ifExp (PW.pt (pw_and (pt_cmpR op_gt (pv 2) pe_int (nomark _)) (pw_and1 (pt_cmpR op_lt (pe_callB (call_len) (by rfl) T.len PySem.boot_len (pa_cons (pe_dget hu (pv 1) pe_str (fun _ _ => rfl)) pa_nil)) pe_int (nomark _))))) (pe_callD D_taken (hr.mono (by omega)) (by rfl) (pa_cons (pv 0) (pa_cons pe_int pa_nil))) pe_int))
(pss_cons (ps_if (pt_cmpR op_eq (pv 5) pe_int (nomark _))
(pss_one (ps_expr (pe_callD D_choice (hr.mono (by omega)) (by rfl) (pa_cons (pv 0) (pa_cons (pv 1) (pa_cons (pv 2) pa_nil))))))
pss_nil)
(pss_one (ps_if (pt_cmpR op_eq (pv 5) pe_int (nomark _))
(pss_one (ps_expr (pe_callD D_round (hr.mono (by omega)) (by rfl) (pa_cons (pv 0) (pa_cons (pv 1) (pa_cons (pv 2) pa_nil))))))
pss_nil)))))))))
    , ?_⟩
    refine ⟨_, rfl, r, 3, rfl, G.row, by decide, by decide, fun k0 H1 z0 z1 o1 row1 => ⟨_, _, rfl, rfl, _, rfl, by omega, by omega, ?_⟩⟩
    refine for_range (lo := 0) (n := (1 + k0).toNat) (fun i σ' H' => ∃ g' a b c, σ' = [some (.ref r), some (.ref s), some (.int z), a, b, c] ∧ GenAt K H' r s g' ∧ Step r s H H' ∧ Ext (i * (4 + Cd d)) g g') ?_ ?_ ?_
    · exact ⟨g, none, none, none, rfl, ⟨_, _, _, _, G.off o1 row1⟩, G.offS o1, by rw [Nat.zero_mul]; exact Ext.refl g⟩
    · rintro i σ' H2 hi ⟨g2, a, b, c, rfl, ⟨lr2, ll2, ln2, us2, G2⟩, S2, X2⟩
      have hi3 : i < 3 := by omega
      have hU : i * (4 + Cd d) + (4 + Cd d) ≤ Bd d := by
        have := Nat.mul_le_mul_right (4 + Cd d) (show i + 1 ≤ 3 by omega)
        rw [Nat.succ_mul] at this
        omega
      have r2 := X2.rl
      have l2 := X2.ll
      have n2 : g2.named.length ≤ 100000 := by rw [X2.named]; exact hl3
      -- line
      refine ⟨_, rfl, s, _, rfl, get_line G2.ds, _, _, rfl, rfl, _, rfl, _, _, rfl, .inl ⟨_, .inr "line", G2.ds, rfl, d6, rfl⟩, ?_⟩
      rw [put_line]
      have S3 := S2.trans (G2.numS { g2 with line := g2.line + 1 })
      have G3 := G2.num { g2 with line := g2.line + 1 } rfl rfl rfl
      generalize upd H2 s (.dK (kvS lr2 ll2 ln2 _)) = H3 at S3 G3 ⊢
      -- begin
      have hus2 : us2.length = g2.rows.length := G2.rows.length
      refine ⟨_, rfl, s, _, rfl, get_rows G3.ds, .inl ⟨rfl, _, SqL.of G3.hr⟩, _, rfl, s, _, rfl, get_line G3.ds, (by show 2 ≤ sizeLine; decide), fun t4 ht4 => ⟨(by show 2 ≤ sizeLine; decide), fun t5 ht5 => ?_⟩⟩
      have G4 := G3.same (same_new (o := .tup [.int (g2.line + 1), .int 3]) ht4)
      have G5 := G4.same (same_new (o := .tup [.str "begin", .ref t4]) ht5)
      have row2 : RowV (upd (upd H3 t4 (.tup [.int (g2.line + 1), .int 3])) t5 (.tup [.str "begin", .ref t4])) (.ref t5) .beg := ⟨t5, t5, .ref t4, rfl, upd_same, trivial⟩
      refine ⟨lr2, _, _, rfl, rfl, G5.hr, szl (by omega), ?_⟩
      have G6 := G5.addR row2
      have S6 := S3.trans ((Step.new (r := r) (o := .tup [.int (g2.line + 1), .int 3]) ht4 G3.ds).trans ((Step.new (r := r) (o := .tup [.str "begin", .ref t4]) ht5 G4.ds).trans (Step.upd (o := .lst (us2 ++ [.ref t5])) G5.fr G5.sr)))
      generalize upd (upd (upd H3 t4 (.tup [.int (g2.line + 1), .int 3])) t5 (.tup [.str "begin", .ref t4])) lr2 (.lst (us2 ++ [.ref t5])) = H6 at G6 S6 ⊢
      have X6 := X2.trans (Ext.beg g2 (g2.line + 1))
      generalize hg6 : ({ g2 with rows := g2.rows ++ [.beg], line := g2.line + 1 } : GS) = g6 at X6
      have G6 : GenAt K H6 r s g6 := by rw [← hg6]; exact ⟨_, _, _, _, G6⟩
      clear row2 G5 G4 G3 S3
      -- straight rows
      obtain ⟨lr6, ll6, ln6, us6, G6⟩ := G6
      refine ⟨_, rfl, r, 3, rfl, G6.row, by decide, by decide, fun k1 H7 y0 y1 o7 row7 => ⟨_, _, rfl, rfl, _, rfl, by omega, by omega, ?_⟩⟩
      refine for_range (lo := 0) (n := (1 + k1).toNat) (fun j σ' H' => ∃ g' b, σ' = [some (.ref r), some (.ref s), some (.int z), some (.int (0 + (i : Nat))), b, c] ∧ GenAt K H' r s g' ∧ Step r s H H' ∧ Ext (i * (4 + Cd d) + 1 + j) g g') ?_ ?_ ?_
      · exact ⟨g6, b, rfl, ⟨_, _, _, _, G6.off o7 row7⟩, S6.trans (G6.offS o7), X6⟩
      · rintro j σ' H8 hj ⟨g8, b8, rfl, ⟨lr8, ll8, ln8, us8, G8⟩, S8, X8⟩
        have r8 := X8.rl
        have l8 := X8.ll
        refine ⟨_, rfl, _, rfl, r, s, g8, lr8, ll8, ln8, us8, rfl, G8, X8.ne hne, by omega, by omega, by rw [X8.named]; omega, fun m n v H9 hm G9 S9 => ?_⟩
        exact ⟨_, _, rfl, ⟨_, _, _, _, G9⟩, S8.trans S9, X8.trans (Ext.str n hm)⟩
      · rintro σ' H8 ⟨g8, b8, rfl, ⟨lr8, ll8, ln8, us8, G8⟩, S8, X8'⟩
        have X8 : Ext (i * (4 + Cd d) + 4) g g8 := X8'.mono (by omega)
        have r8 := X8.rl
        have l8 := X8.ll
        have n8 : g8.named.length ≤ 100000 := by rw [X8.named]; exact hl3
        dsimp only
        refine seq_cut (fun σ' H' => ∃ wy : Int, σ' = [some (.ref r), some (.ref s), some (.int z), some (.int (0 + (i : Nat))), b8, some (.int wy)] ∧ GenAt K H' r s g8 ∧ Step r s H H' ∧ (wy = 0 ∨ 0 < d)) ?_ (fun nx hn => ?_)
        · rintro _ H9 ⟨wy, rfl, G9, S9, hw⟩
          refine seq_cut (fun σ' H' => ∃ g', σ' = [some (.ref r), some (.ref s), some (.int z), some (.int (0 + (i : Nat))), b8, some (.int wy)] ∧ GenAt K H' r s g' ∧ Step r s H H' ∧ Ext (i * (4 + Cd d) + 4 + (if wy = 3 then 0 else Cd d)) g g') ?_ (fun nx hn => ?_)
          · rintro _ H10 ⟨g10, rfl, G10, S10, X10⟩
            refine ⟨_, rfl, rfl, _, rfl, ?_⟩
            refine iB (fun e => ?_) (fun e => ?_)
            · have e3 : wy = 3 := by
                have := of_decide_eq_true e
                injection this
              rw [if_pos e3] at X10
              have r10 := X10.rl
              have l10 := X10.ll
              have hd : 0 < d := by
                rcases hw with z | z
                · omega
                · exact z
              refine ⟨_, rfl, _, rfl, _, rfl, r, s, z, g10, rfl, hz, hd, G10, X10.ne hne, by omega, by omega, by rw [X10.named]; exact hl3, fun g11 H11 G11 S11 X11 => ?_⟩
              exact ⟨g11, _, _, _, rfl, G11, S10.trans S11, (X10.trans X11).mono (by rw [Nat.succ_mul]; omega)⟩
            · exact ⟨g10, _, _, _, rfl, G10, S10, X10.mono (by rw [Nat.succ_mul]; split <;> omega)⟩
          · refine ⟨_, rfl, rfl, _, rfl, ?_⟩
            refine iB (fun e => ?_) (fun e => ?_)
            · have e3 : wy = 2 := by
                have := of_decide_eq_true e
                injection this
              have hd : 0 < d := by
                rcases hw with z | z
                · omega
                · exact z
              refine ⟨_, rfl, _, rfl, _, rfl, r, s, z, g8, rfl, hz, hd, G9, X8.ne hne, by omega, by omega, n8, fun g11 H11 G11 S11 X11 => ?_⟩
              exact hn _ _ ⟨g11, rfl, G11, S9.trans S11, (X8.trans X11).mono (by rw [if_neg (by omega)]; omega)⟩
            · exact hn _ _ ⟨g8, rfl, G9, S9, X8.mono (by omega)⟩
        · refine ⟨_, rfl, _, _, rfl, rfl, _, rfl, ?_⟩
          refine iB (fun e => ?_) (fun e => iF rfl (hn _ _ ⟨0, rfl, ⟨_, _, _, _, G8⟩, S8, .inl rfl⟩))
          have hd : 0 < d := by
            have := of_decide_eq_true e
            omega
          refine ⟨_, rfl, s, _, rfl, get_rows G8.ds, _, us8.length, rfl, .inl ⟨_, SqL.of G8.hr, rfl⟩, _, _, rfl, rfl, _, rfl, ?_⟩
          refine iB (fun e => ?_) (fun e => hn _ _ ⟨0, rfl, ⟨_, _, _, _, G8⟩, S8, .inl rfl⟩)
          refine ⟨_, rfl, r, 4, rfl, G8.row, by decide, by decide, fun k2 H9 x0 x1 o9 row9 => ?_⟩
          exact hn _ _ ⟨k2, rfl, ⟨_, _, _, _, G8.off o9 row9⟩, S8.trans (G8.offS o9), .inr hd⟩
    · rintro σ' H' ⟨g', a, b, c, rfl, G', S', X'⟩
      refine k g' H' G' S' (X'.mono ?_)
      have := Nat.mul_le_mul_right (4 + Cd d) (show (1 + k0).toNat ≤ 3 by omega)
      omega
end
end K48
set_option maxHeartbeats 8000000
set_option linter.all false
/-! _law_made -/
namespace K48
open PySem L2
def rgI (a b : Int) : List Int := (List.range (b - a).toNat).map fun i => a + (i : Nat)
theorem rgV_map (a b : Int) : rgV a b = (rgI a b).map V.int := by
  unfold rgV rgI
  rw [List.map_map]
  rfl
theorem rgI_length (a b : Int) : (rgI a b).length = (b - a).toNat := by unfold rgI; rw [List.length_map, List.length_range]
def LastOk (L : List Int) : MR → Prop
  | .nothing => True
  | .give none => True
  | .give (some c) => c ∈ L
  | _ => False
/-- the rows of a def -/
def WfRows (parts : Nat) (rows : List MR) : Prop := ∃ c L n last, rows = c ++ [last] ∧ Blk (rgI 0 parts) 0 c L n ∧ LastOk L last
structure Md where
  kinds : List Str
  kind : Str
  rows : List MR
  named : List Int
structure Md.Ok (M : Md) : Prop where
  wf : WfRows M.kinds.length M.rows
  len : M.rows.length ≤ 700
  kl : M.kinds.length ≤ 3
  nl : M.named.length ≤ 3
def NameV (H : Hp) (v : V) (c : Int) : Prop := ∃ a x, v = .ref a ∧ H a = some (.tup [.str x, .str "num", .int c, .int 1, .int 90])
theorem NameV.mono {H H' : Hp} (s : TupStay H H') {v : V} {c : Int} (h : NameV H v c) : NameV H' v c := by
  obtain ⟨a, x, e, h1⟩ := h
  exact ⟨a, x, e, s _ _ h1⟩
structure MdAt (H : Hp) (md kt rt nt : Addr) (vs ns : List V) (M : Md) : Prop where
  top : H md = some (.tup [.str "da", .ref kt, .str M.kind, .bl true, .ref rt, .ref nt])
  kinds : H kt = some (.tup (M.kinds.map V.str))
  rt : H rt = some (.tup vs)
  rows : Paired (RowV H) vs M.rows
  nt : H nt = some (.tup ns)
  names : Paired (NameV H) ns M.named
theorem MdAt.mono {H H' : Hp} {md kt rt nt : Addr} {vs ns : List V} {M : Md} (h : MdAt H md kt rt nt vs ns M) (s : TupStay H H') : MdAt H' md kt rt nt vs ns M :=
  ⟨s _ _ h.top, s _ _ h.kinds, s _ _ h.rt, rows_mono s h.rows, s _ _ h.nt, Paired.mapP h.names fun _ _ x => x.mono s⟩
def MadeAt (H : Hp) (md : Addr) (M : Md) : Prop := ∃ kt rt nt vs ns, MdAt H md kt rt nt vs ns M
def Kept (r : Addr) (H H' : Hp) : Prop := ∀ b o, b ≠ r → H b = some o → H' b = some o
section
variable {P : Program} {w : World} {K : PySem.W.Frag} {mg : Str → Option Value} {base : Heap} {aO aL : Addr}
def spMade (K : PySem.W.Frag) : Sp := fun vs H Q _ => ∃ (r : Addr) (z : Int), vs = [.ref r, .int z] ∧ z = 2 ∧ RowAt K H r ∧
  ∀ (md : Addr) (M : Md) (H' : Hp), RowAt K H' r → Kept r H H' → MadeAt H' md M → M.Ok → Q (.ref md) H'
theorem scMade : FnScope ["_law_row", "_law_deep", "_law_s", "_law_cell", "_law_kind", "_law_last", "_law_kinds", "_law_names", "_law_parts", "_law_many", "_law_k"] ["_law_row", "_law_deep"] (defScope (topS 20)) := ⟨rfl, rfl, rfl, by decide +kernel, rfl, by decide +kernel, by decide +kernel⟩
theorem fn_made {f : Addr} {fd : FuncData} (F : Fun K "_law_made" "_law_made" (topS 20) f fd) (T : Blt K mg aO aL)
    (D_taken : Dfn P w K mg base "_law_taken" 1 ["_law_row", "_law_many"] (spTaken K))
    (D_operand : Dfn P w K mg base "_law_operand" 2 ["_law_row", "_law_s"] (spOperand K))
    (D_place : Dfn P w K mg base "_law_place" 2 ["_law_row", "_law_s"] (spPlace K))
    (D_lays : Dfn P w K mg base "_law_lays" 3 ["_law_row", "_law_s", "_law_middle_here"] (spLays K))
    (D_block : Dfn P w K mg base "_law_block" 9 ["_law_row", "_law_s", "_law_deep"] (spBlock K 2)) :
    FnOk P w K mg base CX0 10 f fd ["_law_row", "_law_deep"] (spMade K) := by
  have sc := scMade
  refine F.ok sc (fun vs H Q E h => ?_) (fun cdv A outer s0 H vs Q E hr h => ?_)
  · obtain ⟨r, z, rfl, _⟩ := h
    rfl
  · obtain ⟨r, z, rfl, hz, row, k⟩ := h
    have hu := hu_of hr
    refine ⟨_,
(pss_cons (ps_asg (pe_tup (pa_cons (pe_callD D_taken (hr.mono (by omega)) (by rfl) (pa_cons (pv 0) (pa_cons pe_int pa_nil))) (pa_cons (pe_op op_add pe_int (pe_callD D_taken (hr.mono (by omega)) (by rfl) (pa_cons (pv 0) (pa_cons pe_int pa_nil)))) pa_nil))) (pg_tup rfl (pgs_cons (pg_name (i := 8) sc.nd rfl (Or.inr rfl)) (pgs_cons (pg_name (i := 9) sc.nd rfl (Or.inl rfl)) pgs_nil))))
(pss_cons (ps_set (i := 2) sc.nd rfl (Or.inl rfl) (pe_disp (pps_cons pe_str (pe_lst pa_nil) (pps_cons pe_str pe_int (pps_cons pe_str pe_int (pps_cons pe_str (pe_op op_add (pv 8) (pv 9)) (pps_cons pe_str (pe_listRg rfl (by rfl) T.list (prg_1 (by rfl) T.range (pv 8))) pps_nil))))) (by rfl) (by rfl) (fun z => by cases z) (by decide)))
(pss_cons (ps_dput hu (pv 2) pe_str (pe_listRg rfl (by rfl) T.list (prg_2 (by rfl) T.range (pv 8) (pe_op op_add (pv 8) (pv 9)))) rfl)
(pss_cons (ps_expr (pe_bm PySem.F.plainAttrs_list PySem.F.slot_list_append PySem.F.type_list_append mt_append (pe_dget hu (pv 2) pe_str (fun _ _ => rfl)) (pa_cons (pe_tup (pa_cons pe_str (pa_cons (pe_tup (pa_cons pe_int (pa_cons pe_int pa_nil))) pa_nil))) pa_nil)))
(pss_cons (ps_for PassesOwn.never rfl (pi_list (pe_dget hu (pv 2) pe_str (fun _ _ => rfl))) (pg_name (i := 3) sc.nd rfl (Or.inl rfl))
(pss_one (ps_expr (pe_callD D_lays (hr.mono (by omega)) (by rfl) (pa_cons (pv 0) (pa_cons (pv 2) (pa_cons (pe_tup (pa_cons pe_str (pa_cons (pv 3) (pa_cons (pe_callD D_taken (hr.mono (by omega)) (by rfl) (pa_cons (pv 0) (pa_cons pe_int pa_nil))) pa_nil)))) pa_nil)))))))
(pss_cons (ps_expr (pe_callD D_block (hr.mono (by omega)) (by rfl) (pa_cons (pv 0) (pa_cons (pv 2) (pa_cons (pv 1) pa_nil)))))
(pss_cons (ps_set (i := 4) sc.nd rfl (Or.inl rfl) (pe_ix ix_list (pe_lst (pa_cons pe_str (pa_cons pe_str (pa_cons pe_str pa_nil)))) (pe_callD D_taken (hr.mono (by omega)) (by rfl) (pa_cons (pv 0) (pa_cons pe_int pa_nil))) (fun _ _ => rfl)))
(pss_cons (ps_set (i := 5) sc.nd rfl (Or.inl rfl) (pe_ifExp (PW.pt (pw_and (pt_cmpR op_ne (pv 4) pe_str (nomark _)) (pw_and1 (pt_cmpR op_eq (pe_callD D_taken (hr.mono (by omega)) (by rfl) (pa_cons (pv 0) (pa_cons pe_int pa_nil))) pe_int (nomark _))))) (pe_tup (pa_cons pe_str pa_nil)) (pe_tup (pa_cons pe_str (pa_cons pe_non pa_nil)))))
(pss_cons (ps_set (i := 5) sc.nd rfl (Or.inl rfl) (pe_ifExp (PW.pt (pw_and (pt_cmpR op_ne (pv 4) pe_str (nomark _)) (pw_and1 (pt_cmpR op_eq (pe_ix ix_tup (pv 5) pe_int (fun _ _ => rfl)) pe_str (nomark _))))) (pe_tup (pa_cons pe_str (pa_cons (pe_callD D_operand (hr.mono (by omega)) (by rfl) (pa_cons (pv 0) (pa_cons (pv 2) pa_nil))) pa_nil))) (pv 5)))
(pss_cons (ps_expr (pe_bm PySem.F.plainAttrs_list PySem.F.slot_list_append PySem.F.type_list_append mt_append (pe_dget hu (pv 2) pe_str (fun _ _ => rfl)) (pa_cons (pe_op op_catA (pv 5) (pe_tup (pa_cons (pe_callD D_place (hr.mono (by omega)) (by rfl) (pa_cons (pv 0) (pa_cons (pv 2) pa_nil))) pa_nil))) pa_nil)))
(pss_cons (ps_set (i := 6) sc.nd rfl (Or.inl rfl) (pe_callTy (call_tuple_of) (by rfl) T.tuple (by decide +kernel) (pa_cons (pe_lc (own := [("_law_k", 10)]) rfl sc.nd (pi_range1 (by rfl) T.range (pa_cons (pv 8) pa_nil)) (blkOk_by (own := [("_law_k", 10)]) (N := ["_law_row", "_law_deep", "_law_s", "_law_cell", "_law_kind", "_law_last", "_law_kinds", "_law_names", "_law_parts", "_law_many", "_law_k"]) (sc := defScope (topS 20)) (by decide +kernel)) (fun _ _ _ _ _ => (pg_name (i := 10) sc.nd rfl (Or.inl rfl))) (fun _ _ _ _ _ => pts_nil) (fun _ _ _ _ _ => (pe_ix (r := rIxL K) ix_list (pe_lst (pa_cons pe_str (pa_cons pe_str pa_nil))) (pe_callD D_taken (hr.mono (by omega)) (by rfl) (pa_cons (pv 0) (pa_cons pe_int pa_nil))) (fun _ _ => rfl)))) pa_nil)))
(pss_cons (ps_setLc (i := 7) (own := [("_law_k", 10)]) rfl sc.nd rfl rfl (sw_true rfl rfl rfl (by decide +kernel)) (pi_range1 (by rfl) T.range (pa_cons (pv 9) pa_nil)) (blkOk_by (own := [("_law_k", 10)]) (N := ["_law_row", "_law_deep", "_law_s", "_law_cell", "_law_kind", "_law_last", "_law_kinds", "_law_names", "_law_parts", "_law_many", "_law_k"]) (sc := defScope (topS 20)) (by decide +kernel)) (fun _ _ _ _ _ => (pg_name (i := 10) sc.nd rfl (Or.inl rfl))) (fun _ _ _ _ _ => pts_nil) (fun _ _ _ _ _ => (pe_tup (pa_cons (pe_ix ix_str pe_str (pv 10) (fun _ _ => rfl)) (pa_cons pe_str (pa_cons (pe_op op_add (pv 8) (pv 10)) (pa_cons pe_int (pa_cons pe_int pa_nil))))))))
(pss_one (ps_ret (pe_tup (pa_cons pe_str (pa_cons (pv 6) (pa_cons (pv 4) (pa_cons pe_bl (pa_cons (pe_callTy (call_tuple_of) (by rfl) T.tuple (by decide +kernel) (pa_cons (pe_dget hu (pv 2) pe_str (fun _ _ => rfl)) pa_nil)) (pa_cons (pe_callTy (call_tuple_of) (by rfl) T.tuple (by decide +kernel) (pa_cons (pv 7) pa_nil)) pa_nil)))))))))))))))))))))
    , ?_⟩
    refine ⟨_, rfl, r, 4, rfl, row, by decide, by decide, fun k0 H1 z0 z1 o1 row1 => ⟨_, rfl, r, 3, rfl, row1, by decide, by decide, fun k1 H2 y0 y1 o2 row2 => ⟨_, _, rfl, rfl, (by show 2 ≤ sizeLine; decide), fun t ht => ?_⟩⟩⟩
    refine ⟨_, _, rfl, SqT.of upd_same, rfl, _, _, rfl, _, _, rfl, rfl, ?_⟩
    have row3 := row2.same (same_new (o := .tup [.int k0, .int (1 + k1)]) ht)
    have K3 : Kept r H (upd H2 t (.tup [.int k0, .int (1 + k1)])) := fun b o n e => by
      refine same_new ht _ _ ?_
      rw [o2 b n, o1 b n]
      exact e
    generalize upd H2 t (.tup [.int k0, .int (1 + k1)]) = H3 at row3 K3 ⊢
    -- the dict
    intro s hs
    refine ⟨Nat.zero_le _, fun lr hlr => ?_⟩
    refine ⟨_, rfl, _, rfl, _, _, rfl, rfl, _, rfl, _, rfl, RgOk.of_le (by decide) (by omega) (by decide) z0, fun ll hll => ?_⟩
    have s_lr : s ≠ lr := ne_of_none upd_same hlr
    have s_ll : s ≠ ll := ne_of_none (by rw [upd_ne s_lr]; exact upd_same) hll
    refine ⟨by rw [upd_ne s_ll, upd_ne s_lr]; exact upd_same, [(.inr "rows", .ref lr), (.inr "line", .int 1), (.inr "labels", .int 0), (.inr "next", .int (k0 + (1 + k1))), (.inr "laid", .ref ll)], rfl, (by show 5 ≤ 15; decide), ?_⟩
    rw [show mergeK [] [((.inr "rows" : Key), V.ref lr), (.inr "line", .int 1), (.inr "labels", .int 0), (.inr "next", .int (k0 + (1 + k1))), (.inr "laid", .ref ll)] = [(.inr "rows", .ref lr), (.inr "line", .int 1), (.inr "labels", .int 0), (.inr "next", .int (k0 + (1 + k1))), (.inr "laid", .ref ll)] from rfl]
    -- named
    have H4s := @upd_same (upd (upd (upd H3 s (.dK [])) lr (.lst [])) ll (.lst (rgV 0 k0))) s (.dK [(.inr "rows", .ref lr), (.inr "line", .int 1), (.inr "labels", .int 0), (.inr "next", .int (k0 + (1 + k1))), (.inr "laid", .ref ll)])
    have lr_ll : lr ≠ ll := ne_of_none upd_same hll
    have H4r : (upd (upd (upd (upd H3 s (.dK [])) lr (.lst [])) ll (.lst (rgV 0 k0))) s (.dK [(.inr "rows", .ref lr), (.inr "line", .int 1), (.inr "labels", .int 0), (.inr "next", .int (k0 + (1 + k1))), (.inr "laid", .ref ll)])) lr = some (.lst []) := by
      rw [upd_ne s_lr.symm, upd_ne lr_ll]
      exact upd_same
    have H4l : (upd (upd (upd (upd H3 s (.dK [])) lr (.lst [])) ll (.lst (rgV 0 k0))) s (.dK [(.inr "rows", .ref lr), (.inr "line", .int 1), (.inr "labels", .int 0), (.inr "next", .int (k0 + (1 + k1))), (.inr "laid", .ref ll)])) ll = some (.lst (rgV 0 k0)) := by
      rw [upd_ne s_ll.symm]
      exact upd_same
    have hlr3 : H3 lr = none := by rw [upd_ne s_lr.symm] at hlr; exact hlr
    have hll3 : H3 ll = none := by rw [upd_ne lr_ll.symm, upd_ne s_ll.symm] at hll; exact hll
    have E4 : Same H3 (upd (upd (upd (upd H3 s (.dK [])) lr (.lst [])) ll (.lst (rgV 0 k0))) s (.dK [(.inr "rows", .ref lr), (.inr "line", .int 1), (.inr "labels", .int 0), (.inr "next", .int (k0 + (1 + k1))), (.inr "laid", .ref ll)])) := fun b o e => by
      rw [upd_ne (ne_of_none e hs), upd_ne (ne_of_none e hll3), upd_ne (ne_of_none e hlr3), upd_ne (ne_of_none e hs)]
      exact e
    generalize upd (upd (upd (upd H3 s (.dK [])) lr (.lst [])) ll (.lst (rgV 0 k0))) s (.dK [(.inr "rows", .ref lr), (.inr "line", .int 1), (.inr "labels", .int 0), (.inr "next", .int (k0 + (1 + k1))), (.inr "laid", .ref ll)]) = H4 at H4s H4r H4l E4 ⊢
    refine ⟨_, rfl, _, rfl, _, rfl, _, _, rfl, rfl, _, _, rfl, rfl, RgOk.of_le z0 (by omega) (by omega) (by omega), fun ln hln => ?_⟩
    have E5 := same_new (o := .lst (rgV k0 (k0 + (1 + k1)))) hln
    have s_ln : s ≠ ln := ne_of_none H4s hln
    have hln3 : H3 ln = none := E4.free hln
    refine ⟨_, rfl, _, _, rfl, .inl ⟨_, .inr "named", E5 _ _ H4s, rfl, (by show 5 < sizeLine; decide), rfl⟩, ?_⟩
    rw [show putK [((.inr "rows" : Key), V.ref lr), (.inr "line", .int 1), (.inr "labels", .int 0), (.inr "next", .int (k0 + (1 + k1))), (.inr "laid", .ref ll)] (.inr "named") (.ref ln) = kvS lr ll ln ⟨[], 1, 0, k0 + (1 + k1), rgI 0 k0, rgI k0 (k0 + (1 + k1))⟩ from rfl]
    have rN3 : ∀ b, H3 b = none → r ≠ b := fun b e => by
      obtain ⟨sa, ns, p, sd, bg, h1, _⟩ := row3
      exact ne_of_none h1 e
    have lr_ln : lr ≠ ln := ne_of_none H4r hln
    have ll_ln : ll ≠ ln := ne_of_none H4l hln
    have G5 : GenB K (upd (upd H4 ln (.lst (rgV k0 (k0 + (1 + k1))))) s (.dK (kvS lr ll ln ⟨[], 1, 0, k0 + (1 + k1), rgI 0 k0, rgI k0 (k0 + (1 + k1))⟩))) r s ⟨[], 1, 0, k0 + (1 + k1), rgI 0 k0, rgI k0 (k0 + (1 + k1))⟩ lr ll ln [] := by
      refine ⟨((row3.same E4).same E5).upd (rN3 s hs) (E5 _ _ H4s) (by intro o u z; cases z), upd_same, ?_, .nil, ?_, ?_, rN3 _ hlr3, rN3 _ hll3, rN3 _ hln3, lr_ll, lr_ln, ll_ln⟩
      · rw [upd_ne s_lr.symm]
        exact E5 _ _ H4r
      · rw [upd_ne s_ll.symm, ← rgV_map]
        exact E5 _ _ H4l
      · rw [upd_ne s_ln.symm, ← rgV_map]
        exact upd_same
    have K5 : ∀ b o, b ≠ r → H b = some o → (upd (upd H4 ln (.lst (rgV k0 (k0 + (1 + k1))))) s (.dK (kvS lr ll ln ⟨[], 1, 0, k0 + (1 + k1), rgI 0 k0, rgI k0 (k0 + (1 + k1))⟩))) b = some o ∧ ¬ Fp (upd (upd H4 ln (.lst (rgV k0 (k0 + (1 + k1))))) s (.dK (kvS lr ll ln ⟨[], 1, 0, k0 + (1 + k1), rgI 0 k0, rgI k0 (k0 + (1 + k1))⟩))) r s b := fun b o n e => by
      have e3 := K3 b o n e
      have bs : b ≠ s := ne_of_none e3 hs
      refine ⟨by rw [upd_ne bs]; exact E5 _ _ (E4 _ _ e3), ?_⟩
      rintro (z | z | ⟨kvs, kk, e', m⟩)
      · exact n z
      · exact bs z
      · rw [upd_same] at e'
        cases e'
        simp [kvS] at m
        rcases m with ⟨_, rfl⟩ | ⟨_, rfl⟩ | ⟨_, rfl⟩
        · rw [hlr3] at e3
          cases e3
        · rw [hll3] at e3
          cases e3
        · rw [hln3] at e3
          cases e3
    generalize upd (upd H4 ln (.lst (rgV k0 (k0 + (1 + k1))))) s (.dK (kvS lr ll ln ⟨[], 1, 0, k0 + (1 + k1), rgI 0 k0, rgI k0 (k0 + (1 + k1))⟩)) = H5 at G5 K5 ⊢
    clear E4 E5 H4s H4r H4l hln hlr hll
    have nlen : (rgI k0 (k0 + (1 + k1))).length = (1 + k1).toNat := by rw [rgI_length]; congr 1; omega
    have llen : (rgI 0 k0).length = k0.toNat := by rw [rgI_length]; congr 1; omega
    -- begin
    refine ⟨_, rfl, s, _, rfl, get_rows G5.ds, .inl ⟨rfl, _, SqL.of G5.hr⟩, (by show 2 ≤ sizeLine; decide), fun t4 ht4 => ⟨(by show 2 ≤ sizeLine; decide), fun t5 ht5 => ?_⟩⟩
    have G6 := G5.same (same_new (o := .tup [.int 1, .int 3]) ht4)
    have G7 := G6.same (same_new (o := .tup [.str "begin", .ref t4]) ht5)
    have rowb : RowV (upd (upd H5 t4 (.tup [.int 1, .int 3])) t5 (.tup [.str "begin", .ref t4])) (.ref t5) .beg := ⟨t5, t5, .ref t4, rfl, upd_same, trivial⟩
    refine ⟨lr, _, _, rfl, rfl, G7.hr, (by show 0 < sizeLine; decide), ?_⟩
    have G8 := G7.addR rowb
    have S8 := (Step.new (r := r) (o := .tup [.int 1, .int 3]) ht4 G5.ds).trans ((Step.new (r := r) (o := .tup [.str "begin", .ref t4]) ht5 G6.ds).trans (Step.upd (o := .lst ([] ++ [.ref t5])) G7.fr G7.sr))
    generalize upd (upd (upd H5 t4 (.tup [.int 1, .int 3])) t5 (.tup [.str "begin", .ref t4])) lr (.lst ([] ++ [.ref t5])) = H8 at G8 S8 ⊢
    clear rowb G7 G6
    have X8 : Ext 1 ⟨[], 1, 0, k0 + (1 + k1), rgI 0 k0, rgI k0 (k0 + (1 + k1))⟩ ⟨[] ++ [.beg], 1, 0, k0 + (1 + k1), rgI 0 k0, rgI k0 (k0 + (1 + k1))⟩ := Ext.beg ⟨[], 1, 0, k0 + (1 + k1), rgI 0 k0, rgI k0 (k0 + (1 + k1))⟩ 1
    generalize hg0 : (⟨[], 1, 0, k0 + (1 + k1), rgI 0 k0, rgI k0 (k0 + (1 + k1))⟩ : GS) = g0 at X8
    have g0r : g0.rows = [] := by rw [← hg0]
    have g0l : g0.laid = rgI 0 k0 := by rw [← hg0]
    have g0n : g0.named = rgI k0 (k0 + (1 + k1)) := by rw [← hg0]
    have g0b : g0.labels = 0 := by rw [← hg0]
    -- the named cells
    refine ⟨_, rfl, s, _, rfl, get_named G8.ds, ln, rfl, ⟨_, SqL.of G8.hn⟩, ?_⟩
    refine for_list (K := K) (a := ln) (xs := (rgI k0 (k0 + (1 + k1))).map V.int) (fun i σ' H' => ∃ g' us' a3, σ' = [some (.ref r), some (.int z), some (.ref s), a3, none, none, none, none, some (.int k0), some (.int (1 + k1)), none] ∧
      GenB K H' r s g' lr ll ln us' ∧ Step r s H5 H' ∧ Ext (1 + i) g0 g' ∧ (0 < i → g'.laid ≠ [])) ?_ ?_ ?_ ?_
    · exact ⟨_, _, none, rfl, G8, S8, X8, fun h => absurd h (by omega)⟩
    · rintro i σ' H9 hi ⟨g9, us9, a3, rfl, G9, S9, X9, _⟩
      have := G9.hn
      rw [X9.named, g0n] at this
      exact SqL.of this
    · rintro i x σ' H9 hx ⟨g9, us9, a3, rfl, G9, S9, X9, _⟩
      have hi3 : i < (1 + k1).toNat := by
        have := (List.getElem?_eq_some_iff.mp hx).1
        rw [List.length_map, nlen] at this
        exact this
      obtain ⟨c, rfl⟩ : ∃ c : Int, x = .int c := by
        rw [List.getElem?_map] at hx
        cases e : (rgI k0 (k0 + (1 + k1)))[i]? with
        | none =>
          rw [e] at hx
          cases hx
        | some c =>
          rw [e] at hx
          exact ⟨c, (Option.some.inj hx).symm⟩
      have r9 := X9.rl
      have l9 := X9.ll
      rw [g0r, List.length_nil] at r9
      rw [g0l, llen] at l9
      refine ⟨_, rfl, _, rfl, _, rfl, _, rfl, r, 9, rfl, G9.row, by decide, by decide, fun k2 H10 x0 x1 o10 row10 => ⟨(by show 3 ≤ sizeLine; decide), fun t hht => ?_⟩⟩
      have G10 := G9.off o10 row10
      have G11 := G10.same (same_new (o := .tup [.str "put", .int c, .int k2]) hht)
      refine ⟨r, s, t, r, _, .put c k2, lr, ll, ln, us9, rfl, G11, by omega, by omega, upd_same, trivial, trivial, fun v1 H12 G12 S12 => ?_⟩
      refine ⟨_, _, _, rfl, G12, S9.trans ((G9.offS o10).trans ((Step.new hht G10.ds).trans S12)), X9.trans (Ext.str g9.next ⟨fun c hc => absurd hc (by simp [MR.reads]), by omega⟩), fun _ e => ?_⟩
      have e' : g9.laid ++ [c] = [] := e
      simp at e'
    · rintro σ' H9 ⟨g9, us9, a3, rfl, G9, S9, X9, hne9⟩
      rw [List.length_map, nlen] at X9 hne9
      have hne := hne9 (by omega)
      have hB2 : Bd 2 = 684 := rfl
      have r9 := X9.rl
      have l9 := X9.ll
      rw [g0r, List.length_nil] at r9
      rw [g0l, llen] at l9
      have n9 : g9.named.length ≤ 3 := by
        rw [X9.named, g0n, nlen]
        omega
      refine ⟨_, rfl, _, rfl, _, rfl, r, s, z, g9, rfl, by rw [hz]; rfl, ⟨_, _, _, _, G9⟩, hne, by omega, by omega, by omega, fun g10 H10 G10 S10 X10 => ?_⟩
      have X := X9.trans X10
      have hne10 := X10.ne hne
      have r10 := X10.rl
      have l10 := X10.ll
      have S10 := S9.trans S10
      obtain ⟨lr1, ll1, ln1, us1, G10⟩ := G10
      -- kind
      refine ⟨by show 3 ≤ sizeLine; decide, fun q hq => ⟨_, rfl, r, 3, rfl, (G10.same (same_new hq)).row, by decide, by decide, fun k2 H11 x0 x1 o11 row11 => ?_⟩⟩
      have G11' := G10.same (same_new (o := .lst [.str "", .str "num", .str "yes"]) hq)
      have G11 := G11'.off o11 row11
      have S11 := S10.trans ((Step.new (r := r) (o := .lst [.str "", .str "num", .str "yes"]) hq G10.ds).trans (G11'.offS o11))
      have e11 : H11 q = _ := (o11 q (fun z => new_not_fp G10 (o := .lst [.str "", .str "num", .str "yes"]) hq (.inl z))).trans upd_same
      obtain ⟨kd, ekd⟩ : ∃ kd : Str, atI [V.str "", V.str "num", V.str "yes"] k2 = some (.str kd) := by
        obtain ⟨v, hv, ev⟩ := at3 (x := V.str "") (y := V.str "num") (z := V.str "yes") x0 x1
        rcases hv with rfl | rfl | rfl
        · exact ⟨_, ev⟩
        · exact ⟨_, ev⟩
        · exact ⟨_, ev⟩
      refine ⟨_, _, _, _, rfl, rfl, SqL.of e11, ekd, ?_⟩
      dsimp only [gName]
      -- the last row
      refine seq_cut (fun σ' H' => ∃ t : Addr, σ' = [some (.ref r), some (.int z), some (.ref s), a3, some (.str kd), some (.ref t), none, none, some (.int k0), some (.int (1 + k1)), none] ∧
        GenB K H' r s g10 lr1 ll1 ln1 us1 ∧ Step r s H5 H' ∧ (H' t = some (.tup [.str "nothing"]) ∨ H' t = some (.tup [.str "give", .non]))) ?_ (fun nx hn => ?_)
      · rintro _ H12 ⟨t, rfl, G12, S12, ht⟩
        refine seq_cut (fun σ' H' => ∃ (t : Addr) (m : MR), σ' = [some (.ref r), some (.int z), some (.ref s), a3, some (.str kd), some (.ref t), none, none, some (.int k0), some (.int (1 + k1)), none] ∧
          GenB K H' r s g10 lr1 ll1 ln1 us1 ∧ Step r s H5 H' ∧ H' t = some (.tup (m.pre r)) ∧ LastOk g10.laid m) ?_ (fun nx hn => ?_)
        · rintro _ H13 ⟨t, m, rfl, G13, S13, ht, hlast⟩
          have maux : ∀ H', m.aux H' r := fun H' => by
            cases m <;> first | trivial | exact hlast.elim
          have mne : m.pre r ≠ [] := by simp [MR.pre]
          have m4 : (m.pre r).length ≤ 10 := by cases m <;> (simp only [MR.pre, MR.rest, List.length_cons, List.length_nil]; omega)
          refine ⟨_, rfl, s, _, rfl, get_rows G13.ds, .inl ⟨rfl, _, SqL.of G13.hr⟩, _, rfl, _, rfl, _, rfl, r, s, g10, lr1, ll1, ln1, us1, rfl, G13, fun p H14 G14 S14 => ⟨by show 1 ≤ sizeLine; decide, fun q1 hq1 => ?_⟩⟩
          have G15 := G14.same (same_new (o := .tup [.ref p]) hq1)
          have S15 := S14.trans (Step.new (r := r) (o := .tup [.ref p]) hq1 G14.ds)
          refine ⟨t, q1, _, _, rfl, rfl, SqT.of (S15.tups G13 _ _ ht), SqT.of upd_same, sz (by simp only [List.length_singleton]; omega), fun z => absurd z mne, fun _ z => absurd z (by simp), fun _ _ u hu2 => ?_⟩
          have G16 := G15.same (same_new (o := .tup (m.pre r ++ [.ref p])) hu2)
          have S16 := S13.trans (S15.trans (Step.new (r := r) (o := .tup (m.pre r ++ [.ref p])) hu2 G15.ds))
          have rowm : RowV (upd (upd H14 q1 (.tup [.ref p])) u (.tup (m.pre r ++ [.ref p]))) (.ref u) m := ⟨u, r, .ref p, rfl, upd_same, maux _⟩
          have hus1 : us1.length = g10.rows.length := G13.rows.length
          refine ⟨lr1, us1, _, rfl, rfl, G16.hr, szl (by omega), ?_⟩
          have G17 := G16.addR rowm
          have S17 := S16.trans (Step.upd (o := .lst (us1 ++ [.ref u])) G16.fr G16.sr)
          generalize upd (upd (upd H14 q1 (.tup [.ref p])) u (.tup (m.pre r ++ [.ref p]))) lr1 (.lst (us1 ++ [.ref u])) = H17 at G17 S17 ⊢
          generalize us1 ++ [V.ref u] = us2 at G17
          clear rowm G16 S16 G15 S15 G14 S14
          -- kinds
          refine ⟨_, rfl, _, rfl, by omega, by omega, fun D hD => ?_⟩
          have sD : s ≠ D := ne_of_none G17.ds hD
          refine lc_range (lo := 0) (n := k0.toNat) (fun i H' => ∃ ks : List Str, H' D = some (.lst (ks.map V.str)) ∧ ks.length = i ∧ GenB K H' r s { g10 with rows := g10.rows ++ [m] } lr1 ll1 ln1 us2 ∧ Step r s H17 H' ∧ ¬ Fp H' r s D) ?_ ?_ ?_
          · exact ⟨[], upd_same, rfl, G17.same (same_new hD), Step.new hD G17.ds, new_not_fp G17 hD⟩
          · rintro i H18 hi ⟨ks, hc, hlen, G18, S18, n18⟩
            refine ⟨rfl, by show 2 ≤ sizeLine; decide, fun q3 hq3 => ?_⟩
            have G19 := G18.same (same_new (o := .lst [.str "num", .str "yes"]) hq3)
            refine ⟨_, rfl, r, 2, rfl, G19.row, by decide, by decide, fun k3 H20 w0 w1 o20 row20 => ?_⟩
            have G20 := G19.off o20 row20
            have e20 : H20 q3 = _ := (o20 q3 (fun z => new_not_fp G18 (o := .lst [.str "num", .str "yes"]) hq3 (.inl z))).trans upd_same
            have S20 := (Step.new (r := r) (o := .lst [.str "num", .str "yes"]) hq3 G18.ds).trans (G19.offS o20)
            obtain ⟨kp, _, ek⟩ := at2s (x := "num") (y := "yes") w0 w1
            have hc20 := S20.keep _ _ n18 hc
            have n20 := S20.nfp n18 hc
            refine ⟨_, _, _, _, rfl, rfl, SqL.of e20, ek, _, hc20, by rw [List.length_map, hlen]; exact szl (by omega), ks ++ [kp], by rw [upd_same, List.map_append]; rfl, by rw [List.length_append, hlen]; rfl, G20.other n20 hc20, (S18.trans S20).fresh hD sD, nfp_upd n20 sD⟩
          · rintro H18 ⟨ks, hc, hlen, G18, S18, n18⟩
            refine ⟨_, _, rfl, .inl ⟨SqL.of hc, fun kt hkt => ?_⟩⟩
            have G19 := G18.same (same_new (o := .tup (ks.map V.str)) hkt)
            have S19 := S17.trans (S18.trans (Step.new (r := r) (o := .tup (ks.map V.str)) hkt G18.ds))
            have ekt := @upd_same H18 kt (.tup (ks.map V.str))
            generalize upd H18 kt (.tup (ks.map V.str)) = H19 at G19 S19 ekt ⊢
            -- names
            refine ⟨_, rfl, _, rfl, by omega, by omega, fun D2 hD2 => ?_⟩
            have sD2 : s ≠ D2 := ne_of_none G19.ds hD2
            refine lc_range (lo := 0) (n := (1 + k1).toNat) (fun i H' => ∃ ns : List V, H' D2 = some (.lst ns) ∧ ns.length = i ∧ Paired (NameV H') ns ((List.range i).map fun j : Nat => k0 + (0 + (j : Int))) ∧ GenB K H' r s { g10 with rows := g10.rows ++ [m] } lr1 ll1 ln1 us2 ∧ Step r s H19 H' ∧ ¬ Fp H' r s D2) ?_ ?_ ?_
            · exact ⟨[], upd_same, rfl, .nil, G19.same (same_new hD2), Step.new hD2 G19.ds, new_not_fp G19 hD2⟩
            · rintro i H20 hi ⟨ns, hc2, hlen2, hp2, G20, S20, n20⟩
              obtain ⟨cc, ecc⟩ : ∃ cc, atI (("abcdefg" : Str).cps.toList) (0 + (i : Int)) = some cc := by
                have e : i = 0 ∨ i = 1 ∨ i = 2 := by omega
                rcases e with rfl | rfl | rfl
                · exact ⟨_, rfl⟩
                · exact ⟨_, rfl⟩
                · exact ⟨_, rfl⟩
              refine ⟨rfl, _, rfl, _, _, cc, rfl, rfl, by decide +kernel, ecc, _, rfl, _, rfl, _, _, rfl, rfl, (by show 5 ≤ sizeLine; decide), fun t5 ht5 => ?_⟩
              have E5 := same_new (o := .tup [.str ⟨#[cc]⟩, .str "num", .int (k0 + (0 + (i : Int))), .int 1, .int 90]) ht5
              have G21 := G20.same E5
              have S21 := Step.new (r := r) (o := .tup [.str ⟨#[cc]⟩, .str "num", .int (k0 + (0 + (i : Int))), .int 1, .int 90]) ht5 G20.ds
              have hc21 := E5 _ _ hc2
              have n21 := S21.nfp n20 hc2
              have ts : TupStay H20 (upd (upd H20 t5 (.tup [.str ⟨#[cc]⟩, .str "num", .int (k0 + (0 + (i : Int))), .int 1, .int 90])) D2 (.lst (ns ++ [.ref t5]))) := E5.tups.trans (tup_upd hc21 (by intro xs z; cases z))
              have t5D : t5 ≠ D2 := fun z => by
                rw [z, hc2] at ht5
                cases ht5
              refine ⟨_, hc21, by rw [hlen2]; exact szl (by omega), ns ++ [.ref t5], upd_same, by rw [List.length_append, hlen2]; rfl, ?_, G21.other n21 hc21, (S20.trans S21).fresh hD2 sD2, nfp_upd n21 sD2⟩
              rw [List.range_succ, List.map_append]
              refine (Paired.mapP hp2 fun _ _ x => x.mono ts).snoc ⟨t5, ⟨#[cc]⟩, rfl, ?_⟩
              rw [upd_ne t5D]
              exact upd_same
            · rintro H20 ⟨ns, hc2, hlen2, hp2, G20, S20, n20⟩
              refine ⟨_, rfl, _, rfl, _, rfl, s, _, rfl, get_rows G20.ds, lr1, _, rfl, .inl ⟨SqL.of G20.hr, fun rt hrt => ⟨_, rfl, D2, _, rfl, .inl ⟨SqL.of (xs := ns) ?_, fun nt hnt => ⟨by show 6 ≤ sizeLine; decide, fun md hmd => ?_⟩⟩⟩⟩⟩
              · rw [upd_ne (fun z => by rw [← z, hc2] at hrt; cases hrt)]
                exact hc2
              have E1 := same_new (o := .tup us2) hrt
              have E2 := same_new (o := .tup ns) hnt
              have E3 := same_new (o := .tup [.str "da", .ref kt, .str kd, .bl true, .ref rt, .ref nt]) hmd
              have E := (E1.trans E2).trans E3
              have S20' := S19.trans S20
              refine k md ⟨ks, kd, g10.rows ++ [m], (List.range (1 + k1).toNat).map fun j : Nat => k0 + (0 + (j : Int))⟩ _ (G20.row.same E) (fun b o n e => ?_) ⟨kt, rt, nt, us2, ns, upd_same, E _ _ (S20.tups G19 _ _ ekt), E3 _ _ (E2 _ _ upd_same), rows_mono E.tups G20.rows, E3 _ _ upd_same, Paired.mapP hp2 fun _ _ x => x.mono E.tups⟩ ⟨?_, ?_, ?_, ?_⟩
              · obtain ⟨e5, n5⟩ := K5 b o n e
                exact E _ _ (S20'.keep b o n5 e5)
              · obtain ⟨c, ec, hb⟩ := X.code
                rw [g0r, List.nil_append] at ec
                rw [g0l, g0b] at hb
                refine ⟨c, g10.laid, g10.labels, m, by rw [← ec], ?_, hlast⟩
                have : ((ks.length : Nat) : Int) = k0 := by rw [hlen]; omega
                show Blk (rgI 0 ((ks.length : Nat) : Int)) 0 c g10.laid g10.labels
                rw [this]
                exact hb
              · show (g10.rows ++ [m]).length ≤ 700
                rw [List.length_append, List.length_singleton]
                omega
              · show ks.length ≤ 3
                omega
              · show ((List.range (1 + k1).toNat).map _).length ≤ 3
                rw [List.length_map, List.length_range]
                omega
        · -- give, with a cell
          refine ⟨_, rfl, rfl, _, rfl, ?_⟩
          refine iB (fun e => ?_) (fun e => iF rfl ?_)
          · rcases ht with ht | ht
            · refine ⟨_, rfl, _, _, _, _, rfl, rfl, SqT.of ht, rfl, rfl, _, rfl, ?_⟩
              refine iF (by rfl) ⟨_, rfl, hn _ _ ⟨t, .nothing, rfl, G12, S12, ht, trivial⟩⟩
            · refine ⟨_, rfl, _, _, _, _, rfl, rfl, SqT.of ht, rfl, rfl, _, rfl, ?_⟩
              refine iT (by rfl) ⟨_, rfl, _, rfl, r, s, g10, lr1, ll1, ln1, us1, rfl, G12, hne10, by omega, fun c1 H13 hc1 G13 S13 => ⟨by show 2 ≤ sizeLine; decide, fun t2 ht2 => ?_⟩⟩
              exact hn _ _ ⟨t2, .give (some c1), rfl, G13.same (same_new ht2), S12.trans (S13.trans (Step.new ht2 G13.ds)), upd_same, hc1⟩
          · rcases ht with ht | ht
            · exact ⟨_, rfl, hn _ _ ⟨t, .nothing, rfl, G12, S12, ht, trivial⟩⟩
            · exact ⟨_, rfl, hn _ _ ⟨t, .give none, rfl, G12, S12, ht, trivial⟩⟩
      · -- nothing, or give
        refine ⟨_, rfl, rfl, _, rfl, ?_⟩
        have give : ∀ (H12 : Hp), GenB K H12 r s g10 lr1 ll1 ln1 us1 → Step r s H5 H12 → [V.str "give", V.non].length ≤ sizeLine ∧ ∀ p, H12 p = none → gName 5 (.ref p) [some (.ref r), some (.int z), some (.ref s), a3, some (.str kd), none, none, none, some (.int k0), some (.int (1 + k1)), none] (upd H12 p (.tup [.str "give", .non])) nx :=
          fun H12 G12 S12 => ⟨by show 2 ≤ sizeLine; decide, fun t ht => hn _ _ ⟨t, rfl, G12.same (same_new ht), S12.trans (Step.new ht G12.ds), .inr upd_same⟩⟩
        refine iB (fun e => ?_) (fun e => iF rfl (give H11 G11 S11))
        refine ⟨_, rfl, r, 4, rfl, G11.row, by decide, by decide, fun k3 H12 w0 w1 o12 row12 => ⟨rfl, _, rfl, ?_⟩⟩
        have G12 := G11.off o12 row12
        have S12 := S11.trans (G11.offS o12)
        refine iB (fun e => ?_) (fun e => give H12 G12 S12)
        exact ⟨by show 1 ≤ sizeLine; decide, fun t ht => hn _ _ ⟨t, rfl, G12.same (same_new ht), S12.trans (Step.new ht G12.ds), .inl upd_same⟩⟩
end
end K48
set_option maxHeartbeats 4000000
set_option linter.all false
/-! plain runs of middle rows and of machine rows -/
namespace K48
open PySem L2
inductive Res where
  | val (v : Int)
  | nought
  | great
def lim (z : Int) : Res := if -1000000000000 ≤ z ∧ z ≤ 1000000000000 then .val z else .great
def reck : Op → Int → Int → Res
  | .over, a, b => if b = 0 then .nought else .val (a.fdiv b)
  | .rest, a, b => if b = 0 then .nought else .val (a - a.fdiv b * b)
  | .less, a, b => .val (if a < b then 1 else 0)
  | .same, a, b => .val (if a = b then 1 else 0)
  | .add, a, b => lim (a + b)
  | .take, a, b => lim (a - b)
  | .times, a, b => lim (a * b)
def came (f n : Str) (ws : List Int) : Int :=
  ws.foldl (fun x w => (x * 31 + w) % 1009) ((((f ++ n).length : Nat) : Int) * 7 + ((ws.length : Nat) : Int)) - 500
abbrev Cells := Int → Option Int
abbrev Keeps := Str → Str → Option Int
def Cells.set (f : Cells) (c : Int) (v : Int) : Cells := fun d => if d = c then some v else f d
def Cells.setO (f : Cells) (c : Option Int) (v : Int) : Cells := match c with
  | none => f
  | some c => f.set c v
def Keeps.set (f : Keeps) (a b : Str) (v : Int) : Keeps := fun x y => if x = a ∧ y = b then some v else f x y
def kept (f : Keeps) (a b : Str) : Int := (f a b).getD ((((a ++ b).length : Nat) : Int) * 11)
/-- an event: the cells at a begin; none for all else -/
abbrev Ev := Option Cells
structure MS where
  pc : Nat
  cells : Cells
  keeps : Keeps
inductive Out where
  | next (evs : List Ev) (s : MS)
  | stop (evs : List Ev)
def allOf (f : Cells) : List Int → Option (List Int)
  | [] => some []
  | c :: r => match f c, allOf f r with
    | some v, some vs => some (v :: vs)
    | _, _ => none
def spotOf (rows : List MR) (k : Int) : Option Nat := (List.range rows.length).find? fun i => decide (rows[i]? = some (.label k))
def mstep (rows : List MR) (s : MS) : MR → Option Out
  | .beg => some (.next [some s.cells] { s with pc := s.pc + 1 })
  | .nothing => some (.stop [none])
  | .label _ => some (.next [] { s with pc := s.pc + 1 })
  | .go k => match spotOf rows k with
    | some p => some (.next [] { s with pc := p })
    | none => none
  | .unl c k => match s.cells c, spotOf rows k with
    | some v, some p => some (.next [] { s with pc := if v = 0 then p else s.pc + 1 })
    | _, _ => none
  | .put c n => some (.next [] { s with pc := s.pc + 1, cells := s.cells.set c n })
  | .copy c d => match s.cells d with
    | some v => some (.next [] { s with pc := s.pc + 1, cells := s.cells.set c v })
    | none => none
  | .op o c d e => match s.cells d, s.cells e with
    | some a, some b => match reck o a b with
      | .val v => some (.next [] { s with pc := s.pc + 1, cells := s.cells.set c v })
      | _ => some (.stop [none])
    | _, _ => none
  | .say _ c => match s.cells c with
    | some _ => some (.next [none] { s with pc := s.pc + 1 })
    | none => none
  | .lay k c => match s.cells c with
    | some v => some (.next [none] { s with pc := s.pc + 1, keeps := s.keeps.set "f" k v })
    | none => none
  | .give none => some (.stop [none])
  | .give (some c) => match s.cells c with
    | some _ => some (.stop [none])
    | none => none
  | .fetch c f k => some (.next [none] { s with pc := s.pc + 1, cells := s.cells.set c (kept s.keeps f k) })
  | .call co f n as => match allOf s.cells as with
    | some ws => some (.next [none] { s with pc := s.pc + 1, cells := s.cells.setO co (came f n ws) })
    | none => none
/-- the run of the middle rows: fuel, rows of text that may begin -/
def mrun (rows : List MR) : Nat → Int → MS → Option (List Ev)
  | 0, _, _ => none
  | n + 1, most, s => if most < 0 then some [] else match rows[s.pc]? with
    | none => none
    | some m => match mstep rows s m with
      | none => none
      | some (.stop evs) => some evs
      | some (.next evs s') => match mrun rows n (if m = .beg then most - 1 else most) s' with
        | none => none
        | some rest => some (evs ++ rest)
/-! the machine -/
structure KS where
  pc : Nat
  pile : List Int
  cells : Cells
  keeps : Keeps
inductive KOut where
  | next (evs : List Ev) (s : KS)
  | stop (evs : List Ev)
/-- the top taken off -/
def popped (p : List Int) : Option (List Int × Int) := match p.getLast? with
  | some v => some (p.dropLast, v)
  | none => none
def kstep (rows : List MR) (s : KS) : KR → Option KOut
  | .row _ => match s.pile with
    | [] => some (.next [some s.cells] { s with pc := s.pc + 1 })
    | _ => none
  | .nothing _ => match s.pile with
    | [] => some (.stop [none])
    | _ => none
  | .push n _ => some (.next [] { s with pc := s.pc + 1, pile := s.pile ++ [n] })
  | .load c _ => match s.cells c with
    | some v => some (.next [] { s with pc := s.pc + 1, pile := s.pile ++ [v] })
    | none => none
  | .store c _ => match popped s.pile with
    | some (p, v) => some (.next [] { s with pc := s.pc + 1, pile := p, cells := s.cells.set c v })
    | none => none
  | .fetch f n _ => some (.next [none] { s with pc := s.pc + 1, pile := s.pile ++ [kept s.keeps f n] })
  | .lay n _ => match popped s.pile with
    | some (p, v) => some (.next [none] { s with pc := s.pc + 1, pile := p, keeps := s.keeps.set "f" n v })
    | none => none
  | .op o _ => match popped s.pile with
    | some (p, b) => match popped p with
      | some (q, a) => match reck o a b with
        | .val v => some (.next [] { s with pc := s.pc + 1, pile := q ++ [v] })
        | _ => some (.stop [none])
      | none => none
    | none => none
  | .jump a _ => if 0 ≤ a then some (.next [] { s with pc := a.toNat }) else none
  | .unl a _ => match popped s.pile with
    | some (p, v) => if 0 ≤ a then some (.next [] { s with pc := if v = 0 then a.toNat else s.pc + 1, pile := p }) else none
    | none => none
  | .call f n many k => if 0 ≤ many ∧ many.toNat ≤ s.pile.length ∧ 0 ≤ k then
      match rows[k.toNat]? with
      | some (.call co _ _ _) => some (.next [none] { s with pc := s.pc + 1, pile := s.pile.take (s.pile.length - many.toNat) ++ (match co with
          | none => []
          | some _ => [came f n (s.pile.drop (s.pile.length - many.toNat))]) })
      | _ => none
    else none
  | .give many _ => if many = 1 then match popped s.pile with
      | some _ => some (.stop [none])
      | none => none
    else some (.stop [none])
  | .say _ _ => match popped s.pile with
    | some (p, _) => some (.next [none] { s with pc := s.pc + 1, pile := p })
    | none => none
def KR.isRow : KR → Bool
  | .row _ => true
  | _ => false
def krun (rows : List MR) (krows : List KR) : Nat → Int → KS → Option (List Ev)
  | 0, _, _ => none
  | n + 1, most, s => if most < 0 then some [] else match krows[s.pc]? with
    | none => none
    | some m => match kstep rows s m with
      | none => none
      | some (.stop evs) => some evs
      | some (.next evs s') => match krun rows krows n (if m.isRow = true then most - 1 else most) s' with
        | none => none
        | some rest => some (evs ++ rest)
end K48
set_option maxHeartbeats 8000000
set_option linter.all false
/-! _law_reckon, _law_came -/
namespace K48
open PySem L2
def Bnd (z : Int) : Prop := -1000000000000 ≤ z ∧ z ≤ 1000000000000
def Res.v : Res → V
  | .val v => .int v
  | .nought => .str "nought"
  | .great => .str "great"
theorem Bnd.mul {a : Int} (h : Bnd a) : -(2 ^ 64) < a ∧ a < 2 ^ 64 := by
  obtain ⟨h1, h2⟩ := h
  omega
theorem Bnd.div {a b : Int} (h : Bnd b) (hb : b ≠ 0) : CDvA a b := by
  obtain ⟨h1, h2⟩ := h
  refine ⟨hb, ?_⟩
  have : b.natAbs < 2 ^ 9000 := Nat.lt_of_le_of_lt (show b.natAbs ≤ 1000000000000 by omega) (by decide +kernel)
  exact (Nat.log2_lt (by omega)).mpr this
theorem lim_eq (z : Int) {A B : Prop} : (if decide (-1000000000000 ≤ z) = true then (if decide (z ≤ 1000000000000) = true then A else B) else B) ↔ (if -1000000000000 ≤ z ∧ z ≤ 1000000000000 then A else B) := by
  by_cases h1 : -1000000000000 ≤ z <;> by_cases h2 : z ≤ 1000000000000 <;> simp [h1, h2]
section
variable {P : Program} {w : World} {K : PySem.W.Frag} {mg : Str → Option Value} {base : Heap} {aO aL : Addr}
def spReckon : Sp := fun vs H Q _ => ∃ (o : Op) (a b : Int), vs = [.str o.name, .int a, .int b] ∧ Bnd a ∧ Bnd b ∧ Q (reck o a b).v H
theorem scReckon : FnScope ["_law_word", "_law_one", "_law_other", "_law_found"] ["_law_word", "_law_one", "_law_other"] (defScope (topS 21)) := ⟨rfl, rfl, rfl, by decide +kernel, rfl, by decide +kernel, by decide +kernel⟩
theorem fn_reckon {f : Addr} {fd : FuncData} (F : Fun K "_law_reckon" "_law_reckon" (topS 21) f fd) (T : Blt K mg aO aL) :
    FnOk P w K mg base CX0 1 f fd ["_law_word", "_law_one", "_law_other"] spReckon := by
  have sc := scReckon
  refine F.ok sc (fun vs H Q E h => ?_) (fun cdv A outer s0 H vs Q E hr h => ?_)
  · obtain ⟨o, a, b, rfl, _⟩ := h
    rfl
  · obtain ⟨o, a, b, rfl, ha, hb, k⟩ := h
    have hu := hu_of hr
    refine ⟨_,
(pss_cons (ps_if (pt_inT hu (pv 0) (pas_cons (pas_cons pas_nil)) (by decide))
(pss_one (ps_ret (pe_ifExp (pt_cmpR op_eq (pv 2) pe_int (nomark _)) pe_str (pe_ifExp (pt_cmpR op_eq (pv 0) pe_str (nomark _)) (pe_op op_fdivA (pv 1) (pv 2)) (pe_op op_sub (pv 1) (pe_op op_mul (pe_op op_fdivA (pv 1) (pv 2)) (pv 2)))))))
pss_nil)
(pss_cons (ps_if (pt_inT hu (pv 0) (pas_cons (pas_cons pas_nil)) (by decide))
(pss_one (ps_ret (pe_ifExp (pt_cmpR op_eq (pv 0) pe_str (nomark _)) (pe_callTy (call_int1) (by rfl) T.int (by decide +kernel) (pa_cons (pe_cmpR op_lt (pv 1) (pv 2) (nomark _)) pa_nil)) (pe_callTy (call_int1) (by rfl) T.int (by decide +kernel) (pa_cons (pe_cmpR op_eq (pv 1) (pv 2) (nomark _)) pa_nil)))))
pss_nil)
(pss_cons (ps_set (i := 3) sc.nd rfl (Or.inl rfl) (pe_ifExp (pt_cmpR op_eq (pv 0) pe_str (nomark _)) (pe_op op_add (pv 1) (pv 2)) (pe_ifExp (pt_cmpR op_eq (pv 0) pe_str (nomark _)) (pe_op op_sub (pv 1) (pv 2)) (pe_op op_mul (pv 1) (pv 2)))))
(pss_one (ps_ret (pe_ifExp (pt_chain op_le op_le (pe_op op_sub pe_int (pe_op op_pow pe_int pe_int)) (pv 3) (pe_op op_pow pe_int pe_int)) (pv 3) pe_str))))))
    , ?_⟩
    refine ⟨_, rfl, .inl rfl, ?_⟩
    have fin : ∀ z : Int, Q (lim z).v H → tSeq (tRet (tIf (tTest (tChain (rI0 fun i j => .bl (decide (i ≤ j))) (rI0 fun i j => .bl (decide (i ≤ j))) (tOp (rI0 fun i j => .int (i - j)) (tC (.int 0)) (tOp (rI CPow fun i j => .int (i ^ j.toNat)) (tC (.int 10)) (tC (.int 12)))) (tVar 3) (tOp (rI CPow fun i j => .int (i ^ j.toNat)) (tC (.int 10)) (tC (.int 12))))) (tVar 3) (tC (.str "great")))) tNext { nx := fun _ H' => Q .non H', rt := Q } [some (.str o.name), some (.int a), some (.int b), some (.int z)] H := fun z q => by
      have pw : (10 : Int) ^ (12 : Int).toNat = 1000000000000 := by decide
      refine ⟨_, _, rfl, rfl, ⟨by decide, by decide, by decide⟩, _, _, rfl, rfl, _, rfl, _, _, rfl, rfl, _, rfl, ?_⟩
      rw [pw]
      show if decide (0 - 1000000000000 ≤ z) = true then _ else _
      refine iB (fun e => ?_) (fun e => ?_)
      · refine ⟨_, _, rfl, rfl, ⟨by decide, by decide, by decide⟩, _, _, rfl, rfl, _, rfl, ?_⟩
        rw [pw]
        refine iB (fun e2 => ?_) (fun e2 => ?_)
        · refine ⟨_, rfl, ?_⟩
          unfold lim at q
          rw [if_pos ⟨by have := of_decide_eq_true e; omega, of_decide_eq_true e2⟩] at q
          exact q
        · unfold lim at q
          rw [if_neg (fun z => of_decide_eq_false e2 z.2)] at q
          exact q
      · refine ⟨_, rfl, iF rfl ?_⟩
        unfold lim at q
        rw [if_neg (fun z => of_decide_eq_false e (by omega))] at q
        exact q
    cases o with
    | over =>
      refine iT (by rfl) ⟨_, rfl, rfl, _, rfl, ?_⟩
      refine iB (fun e => ?_) (fun e => ?_)
      · have e0 : b = 0 := by injection of_decide_eq_true e
        show Q (.str "nought") H
        have : reck .over a b = .nought := if_pos e0
        rw [this] at k
        exact k
      · have e0 : b ≠ 0 := fun z => of_decide_eq_false e (by rw [z])
        refine ⟨_, rfl, rfl, _, rfl, iT (by rfl) ⟨_, rfl, _, rfl, _, _, rfl, rfl, hb.div e0, ?_⟩⟩
        have : reck .over a b = .val (a.fdiv b) := if_neg e0
        rw [this] at k
        exact k
    | rest =>
      refine iT (by rfl) ⟨_, rfl, rfl, _, rfl, ?_⟩
      refine iB (fun e => ?_) (fun e => ?_)
      · have e0 : b = 0 := by injection of_decide_eq_true e
        show Q (.str "nought") H
        have : reck .rest a b = .nought := if_pos e0
        rw [this] at k
        exact k
      · have e0 : b ≠ 0 := fun z => of_decide_eq_false e (by rw [z])
        refine ⟨_, rfl, rfl, _, rfl, iF (by rfl) ⟨_, rfl, _, rfl, _, rfl, _, _, rfl, rfl, hb.div e0, _, rfl, _, _, rfl, rfl, .inr hb.mul, _, _, rfl, rfl, ?_⟩⟩
        have : reck .rest a b = .val (a - a.fdiv b * b) := if_neg e0
        rw [this] at k
        exact k
    | less =>
      refine iF (by rfl) ⟨_, rfl, .inl rfl, iT (by rfl) ⟨_, rfl, rfl, _, rfl, iT (by rfl) ⟨_, rfl, _, rfl, _, _, rfl, rfl, .inr ⟨_, rfl, ?_⟩⟩⟩⟩
      have : (if decide (a < b) = true then (1 : Int) else 0) = if a < b then 1 else 0 := by simp
      rw [this]
      exact k
    | same =>
      refine iF (by rfl) ⟨_, rfl, .inl rfl, iT (by rfl) ⟨_, rfl, rfl, _, rfl, iF (by rfl) ⟨_, rfl, _, rfl, rfl, .inr ⟨_, rfl, ?_⟩⟩⟩⟩
      have : (if decide (V.int a = V.int b) = true then (1 : Int) else 0) = if a = b then 1 else 0 := by
        by_cases e : a = b <;> simp [e]
      rw [this]
      exact k
    | add =>
      refine iF (by rfl) ⟨_, rfl, .inl rfl, iF (by rfl) ⟨_, rfl, rfl, _, rfl, iT (by rfl) ⟨_, rfl, _, rfl, _, _, rfl, rfl, ?_⟩⟩⟩
      exact fin (a + b) k
    | take =>
      refine iF (by rfl) ⟨_, rfl, .inl rfl, iF (by rfl) ⟨_, rfl, rfl, _, rfl, iF (by rfl) ⟨_, rfl, rfl, _, rfl, iT (by rfl) ⟨_, rfl, _, rfl, _, _, rfl, rfl, ?_⟩⟩⟩⟩
      exact fin (a - b) k
    | times =>
      refine iF (by rfl) ⟨_, rfl, .inl rfl, iF (by rfl) ⟨_, rfl, rfl, _, rfl, iF (by rfl) ⟨_, rfl, rfl, _, rfl, iF (by rfl) ⟨_, rfl, _, rfl, _, _, rfl, rfl, .inr hb.mul, ?_⟩⟩⟩⟩
      exact fin (a * b) k
def spCame (K : PySem.W.Frag) : Sp := fun vs H Q _ => ∃ (f n : Str) (wl : Addr) (ws : List Int), vs = [.str f, .str n, .ref wl] ∧ SqL K H wl (ws.map V.int) ∧ f.length ≤ 3 ∧ n.length ≤ 3 ∧ Q (.int (came f n ws)) H
theorem scCame : FnScope ["_law_file", "_law_name", "_law_worths", "_law_found", "_law_worth"] ["_law_file", "_law_name", "_law_worths"] (defScope (topS 22)) := ⟨rfl, rfl, rfl, by decide +kernel, rfl, by decide +kernel, by decide +kernel⟩
theorem fn_came {f : Addr} {fd : FuncData} (F : Fun K "_law_came" "_law_came" (topS 22) f fd) (T : Blt K mg aO aL) :
    FnOk P w K mg base CX0 1 f fd ["_law_file", "_law_name", "_law_worths"] (spCame K) := by
  have sc := scCame
  refine F.ok sc (fun vs H Q E h => ?_) (fun cdv A outer s0 H vs Q E hr h => ?_)
  · obtain ⟨f, n, wl, ws, rfl, _⟩ := h
    rfl
  · obtain ⟨f, n, wl, ws, rfl, hw, hf, hn, k⟩ := h
    have hu := hu_of hr
    have hfn : (f ++ n).length = f.length + n.length := by
      show (f.cps ++ n.cps).size = _
      rw [Array.size_append]
      rfl
    refine ⟨_,
(pss_cons (ps_set (i := 3) sc.nd rfl (Or.inl rfl) (pe_op op_add (pe_op op_mul (pe_callB (call_len) (by rfl) T.len PySem.boot_len (pa_cons (pe_op op_add_str (pv 0) (pv 1)) pa_nil)) pe_int) (pe_callB (call_len) (by rfl) T.len PySem.boot_len (pa_cons (pv 2) pa_nil))))
(pss_cons (ps_for PassesOwn.never rfl (pi_list (pv 2)) (pg_name (i := 4) sc.nd rfl (Or.inl rfl))
(pss_one (ps_set (i := 3) sc.nd rfl (Or.inl rfl) (pe_op op_mod (pe_op op_add (pe_op op_mul (pv 3) pe_int) (pv 4)) pe_int))))
(pss_one (ps_ret (pe_op op_sub (pv 3) pe_int)))))
    , ?_⟩
    refine ⟨_, rfl, _, rfl, _, _, rfl, rfl, sz (by omega), _, (f ++ n).length, rfl, ⟨sz (by omega), rfl⟩, _, _, rfl, rfl, .inr ⟨by decide, by decide⟩, _, rfl, _, ws.length, rfl, .inl ⟨_, hw, (List.length_map _).symm⟩, _, _, rfl, rfl, ?_⟩
    refine ⟨_, rfl, wl, rfl, ⟨_, hw⟩, ?_⟩
    refine for_list (K := K) (a := wl) (xs := ws.map V.int) (fun i σ' H' => H' = H ∧ ∃ (c : Int) (x : Option V), σ' = [some (.str f), some (.str n), some (.ref wl), some (.int c), x] ∧
      (ws.drop i).foldl (fun x w => (x * 31 + w) % 1009) c = ws.foldl (fun x w => (x * 31 + w) % 1009) ((((f ++ n).length : Nat) : Int) * 7 + ((ws.length : Nat) : Int))) ?_ ?_ ?_ ?_
    · exact ⟨rfl, _, none, rfl, rfl⟩
    · rintro i σ' H' _ ⟨rfl, _⟩
      exact hw
    · rintro i x σ' H' hx ⟨rfl, c, y, rfl, hc⟩
      have hi : i < ws.length := by
        have := (List.getElem?_eq_some_iff.mp hx).1
        rw [List.length_map] at this
        exact this
      rw [List.getElem?_map, List.getElem?_eq_getElem hi] at hx
      obtain rfl : V.int ws[i] = x := Option.some.inj hx
      refine ⟨_, rfl, _, _, rfl, rfl, .inr ⟨by decide, by decide⟩, _, rfl, _, _, rfl, rfl, _, _, rfl, rfl, (by show (0 : Int) < 1009; decide), ?_⟩
      refine ⟨rfl, _, _, rfl, ?_⟩
      rw [List.drop_eq_getElem_cons hi, List.foldl_cons] at hc
      exact hc
    · rintro σ' H' ⟨rfl, c, y, rfl, hc⟩
      rw [List.length_map, List.drop_length] at hc
      refine ⟨_, rfl, _, _, rfl, rfl, ?_⟩
      have hc' : c = ws.foldl (fun x w => (x * 31 + w) % 1009) ((((f ++ n).length : Nat) : Int) * 7 + ((ws.length : Nat) : Int)) := hc
      show Q (.int (c - 500)) H'
      rw [hc']
      exact k
end
end K48
set_option maxHeartbeats 8000000
set_option linter.all false
/-! xs.pop(); cells and keeps in the heap; _law_done -/
namespace K48
open PySem L2
theorem pe_popK {X : Cx} {o : Expr} {to : TE} {apos cpos : Pos} {K : PySem.W.Frag} (hK : X.K = K) (ho : PE X o to)
    (hbase : attributeBase o "pop" X.env (eval o X.env) = eval o X.env := by rfl) (hline : (apos.endLine == cpos.line) = true := by rfl) :
    PE X (.Call (.Attribute o "pop" apos) [] [] cpos) (tBM0 K "list" rPop to) := by
  subst hK
  exact pe_bm0 PySem.F.plainAttrs_list PySem.F.slot_list_pop PySem.F.type_list_pop mt_pop ho hbase hline
def CellsAt (H : Hp) (d : Addr) (f : Cells) (B : Nat) : Prop := ∃ kvs : List (Key × V), H d = some (.dK kvs) ∧ kvs.length ≤ B ∧ ∀ c, valV kvs (.inl c) = (f c).map V.int
def KeepsAt (H : Hp) (d : Addr) (f : Keeps) (B : Nat) : Prop := ∃ kvs : List (List Key × V), H d = some (.dT kvs) ∧ kvs.length ≤ B ∧ ∀ a b, valV kvs [.inr a, .inr b] = (f a b).map V.int
theorem CellsAt.get {H : Hp} {d : Addr} {f : Cells} {B : Nat} (h : CellsAt H d f B) {c v : Int} (e : f c = some v) : DGet H d (.int c) (some (.int v)) := by
  obtain ⟨kvs, h1, _, h3⟩ := h
  exact .inl ⟨kvs, .inl c, .inl h1, rfl, by rw [h3, e]; rfl⟩
theorem CellsAt.put {H : Hp} {d : Addr} {f : Cells} {B : Nat} (h : CellsAt H d f B) (c v : Int) (hB : B ≤ 1000000) :
    ∃ H', DPut H d (.int c) (.int v) H' ∧ CellsAt H' d (f.set c v) (B + 1) ∧ ∃ o, H' = upd H d o := by
  obtain ⟨kvs, h1, h2, h3⟩ := h
  refine ⟨_, .inl ⟨kvs, .inl c, h1, rfl, szl (by omega), rfl⟩, ⟨_, upd_same, Nat.le_trans (length_putK _ _ _) (by omega), fun e => ?_⟩, _, rfl⟩
  rw [valV_put]
  unfold Cells.set
  by_cases he : e = c
  · subst he
    simp
  · rw [if_neg (fun z => he (Sum.inl.inj z)), if_neg he, h3]
theorem CellsAt.at {H H' : Hp} {d : Addr} {f : Cells} {B : Nat} (h : CellsAt H d f B) (e : H' d = H d) : CellsAt H' d f B := by
  obtain ⟨kvs, h1, h2⟩ := h
  exact ⟨kvs, e.trans h1, h2⟩
theorem KeepsAt.at {H H' : Hp} {d : Addr} {f : Keeps} {B : Nat} (h : KeepsAt H d f B) (e : H' d = H d) : KeepsAt H' d f B := by
  obtain ⟨kvs, h1, h2⟩ := h
  exact ⟨kvs, e.trans h1, h2⟩
theorem CellsAt.mono {H : Hp} {d : Addr} {f : Cells} {B B2 : Nat} (h : CellsAt H d f B) (e : B ≤ B2) : CellsAt H d f B2 := by
  obtain ⟨kvs, h1, h2, h3⟩ := h
  exact ⟨kvs, h1, Nat.le_trans h2 e, h3⟩
theorem KeepsAt.mono {H : Hp} {d : Addr} {f : Keeps} {B B2 : Nat} (h : KeepsAt H d f B) (e : B ≤ B2) : KeepsAt H d f B2 := by
  obtain ⟨kvs, h1, h2, h3⟩ := h
  exact ⟨kvs, h1, Nat.le_trans h2 e, h3⟩
theorem key2 (x y a b : Str) : (([.inr x, .inr y] : List Key) = [.inr a, .inr b]) ↔ (x = a ∧ y = b) := by
  constructor
  · intro h
    injection h with h1 h2
    injection h2 with h2 _
    exact ⟨Sum.inr.inj h1, Sum.inr.inj h2⟩
  · rintro ⟨rfl, rfl⟩
    rfl
theorem KeepsAt.put {H : Hp} {d t : Addr} {f : Keeps} {B : Nat} (h : KeepsAt H d f B) (a b : Str) (v : Int) (hB : B ≤ 1000000) (ht : H t = some (.tup [.str a, .str b])) :
    ∃ H', DPut H d (.ref t) (.int v) H' ∧ KeepsAt H' d (f.set a b v) (B + 1) ∧ ∃ o, H' = upd H d o := by
  obtain ⟨kvs, h1, h2, h3⟩ := h
  refine ⟨_, .inr ⟨kvs, [.inr a, .inr b], t, h1, rfl, ht, szl (by omega), rfl⟩, ⟨_, upd_same, Nat.le_trans (length_putK _ _ _) (by omega), fun x y => ?_⟩, _, rfl⟩
  rw [valV_put]
  unfold Keeps.set
  by_cases he : x = a ∧ y = b
  · rw [if_pos ((key2 x y a b).mpr he), if_pos he]
    rfl
  · rw [if_neg (fun z => he ((key2 x y a b).mp z)), if_neg he, h3]
theorem KeepsAt.get {H : Hp} {d t : Addr} {f : Keeps} {B : Nat} (h : KeepsAt H d f B) {a b : Str} (ht : H t = some (.tup [.str a, .str b])) :
    DGet H d (.ref t) ((f a b).map V.int) := by
  obtain ⟨kvs, h1, h2, h3⟩ := h
  exact .inr ⟨kvs, [.inr a, .inr b], t, .inl h1, rfl, ht, (h3 a b).symm⟩
theorem CellsAt.isD {H : Hp} {d : Addr} {f : Cells} {B : Nat} (h : CellsAt H d f B) : IsD H d := by
  obtain ⟨kvs, h1, _⟩ := h
  exact .inl ⟨kvs, .inl h1⟩
theorem KeepsAt.isD {H : Hp} {d : Addr} {f : Keeps} {B : Nat} (h : KeepsAt H d f B) : IsD H d := by
  obtain ⟨kvs, h1, _⟩ := h
  exact .inr ⟨kvs, .inl h1⟩
theorem CellsAt.some {H : Hp} {d : Addr} {f : Cells} {B : Nat} (h : CellsAt H d f B) : ∃ kvs, H d = Option.some (.dK kvs) := by
  obtain ⟨kvs, h1, _⟩ := h
  exact ⟨kvs, h1⟩
theorem KeepsAt.some {H : Hp} {d : Addr} {f : Keeps} {B : Nat} (h : KeepsAt H d f B) : ∃ kvs, H d = Option.some (.dT kvs) := by
  obtain ⟨kvs, h1, _⟩ := h
  exact ⟨kvs, h1⟩
/-- all but the things of W is kept -/
def Kp (W : List Addr) (H H' : Hp) : Prop := ∀ b o, b ∉ W → H b = some o → H' b = some o
theorem Kp.refl (W : List Addr) (H : Hp) : Kp W H H := fun _ _ _ e => e
theorem Kp.trans {W : List Addr} {H H1 H2 : Hp} (a : Kp W H H1) (b : Kp W H1 H2) : Kp W H H2 := fun c o n e => b c o n (a c o n e)
theorem Kp.same {W : List Addr} {H H' : Hp} (s : Same H H') : Kp W H H' := fun b o _ e => s b o e
theorem Kp.upd {W : List Addr} {H : Hp} {x : Addr} {o : HO} (h : x ∈ W) : Kp W H (upd H x o) := fun b u n e => by
  rw [upd_ne (fun z => n (by rw [z]; exact h))]
  exact e
theorem Kp.mono {W W2 : List Addr} {H H' : Hp} (a : Kp W H H') (h : ∀ x ∈ W, x ∈ W2) : Kp W2 H H' := fun c o n e => a c o (fun z => n (h c z)) e
/-- texts that name things of the rows are short -/
def MrOk : MR → Prop
  | .put _ n => Bnd n
  | .fetch _ f k => f.length ≤ 3 ∧ k.length ≤ 3
  | .lay k _ => k.length ≤ 3
  | .say k _ => k.length ≤ 3
  | .call _ f k as => f.length ≤ 3 ∧ k.length ≤ 3 ∧ as.length ≤ 3
  | _ => True
def BndC (f : Cells) : Prop := ∀ c v, f c = some v → Bnd v
def BndK (f : Keeps) : Prop := ∀ a b v, f a b = some v → Bnd v
abbrev faultsW : List Str := ["great", "nought"]
theorem short_no {z : Str} (h : z.length ≤ 3) : inS (.str z) faultsW = false := by
  show decide (z ∈ faultsW) = false
  refine decide_eq_false fun m => ?_
  simp only [List.mem_cons, List.mem_nil_iff, or_false] at m
  rcases m with rfl | rfl
  · exact absurd h (by decide +kernel)
  · exact absurd h (by decide +kernel)
/-- what is told behind a row that is no way -/
def ToldAt (H : Hp) (t : Addr) (evs : List Ev) (fin : Bool) : Prop :=
  (evs = [] ∧ fin = false ∧ H t = some (.tup [])) ∨
  (evs = [none] ∧ ∃ x rest, H t = some (.tup (x :: rest)) ∧ rest.length ≤ 2 ∧ flatV x = true ∧ inS x faultsW = fin)
theorem allOf_get {f : Cells} : ∀ {as ws : List Int}, allOf f as = some ws → as.length = ws.length ∧ ∀ (i : Nat) (c : Int), as[i]? = some c → ∃ v, ws[i]? = some v ∧ f c = some v
  | [], ws, h => by
    unfold allOf at h
    cases h
    exact ⟨rfl, fun i c e => by simp at e⟩
  | a :: as, ws, h => by
    unfold allOf at h
    cases e1 : f a with
    | none => rw [e1] at h; cases h
    | some v =>
      cases e2 : allOf f as with
      | none => rw [e1, e2] at h; cases h
      | some vs =>
        rw [e1, e2] at h
        cases h
        obtain ⟨h1, h2⟩ := allOf_get e2
        refine ⟨by rw [List.length_cons, List.length_cons, h1], fun i c e => ?_⟩
        cases i with
        | zero =>
          simp at e
          subst e
          exact ⟨v, rfl, e1⟩
        | succ i => exact h2 i c (by simpa using e)
end K48
set_option maxHeartbeats 8000000
set_option linter.all false
/-! _law_done -/
namespace K48
open PySem L2
def MR.isDone : MR → Prop
  | .say _ _ => True
  | .lay _ _ => True
  | .give _ => True
  | .fetch _ _ _ => True
  | .call _ _ _ _ => True
  | .op _ _ _ _ => True
  | _ => False
def DoneRes (H' : Hp) (cl kp t : Addr) (B : Nat) (m : MR) : Out → Prop
  | .next evs s' => ToldAt H' t evs false ∧ CellsAt H' cl s'.cells (B + 1) ∧ KeepsAt H' kp s'.keeps (B + 1)
  | .stop evs => ∃ fin, ToldAt H' t evs fin ∧ (fin = true ∨ ∃ c, m = .give c)
section
variable {P : Program} {w : World} {K : PySem.W.Frag} {mg : Str → Option Value} {base : Heap} {aO aL : Addr}
def spDone : Sp := fun vs H Q _ => ∃ (a cl kp : Addr) (m : MR) (rows : List MR) (s : MS) (out : Out) (B : Nat), vs = [.ref a, .ref cl, .ref kp] ∧ RowV H (.ref a) m ∧ m.isDone ∧ MrOk m ∧
  CellsAt H cl s.cells B ∧ KeepsAt H kp s.keeps B ∧ B ≤ 900000 ∧ BndC s.cells ∧ mstep rows s m = some out ∧
  ∀ (t : Addr) (H' : Hp), Kp [cl, kp] H H' → DoneRes H' cl kp t B m out → Q (.ref t) H'
theorem scDone : FnScope ["_law_row", "_law_cells", "_law_keeps", "_law_word", "_law_worth", "_law_worths", "_law_cell"] ["_law_row", "_law_cells", "_law_keeps"] (defScope (topS 24)) := ⟨rfl, rfl, rfl, by decide +kernel, rfl, by decide +kernel, by decide +kernel⟩
theorem fn_done {f : Addr} {fd : FuncData} (F : Fun K "_law_done" "_law_done" (topS 24) f fd) (T : Blt K mg aO aL)
    (D_reckon : Dfn P w K mg base "_law_reckon" 1 ["_law_word", "_law_one", "_law_other"] spReckon)
    (D_came : Dfn P w K mg base "_law_came" 1 ["_law_file", "_law_name", "_law_worths"] (spCame K)) :
    FnOk P w K mg base CX0 2 f fd ["_law_row", "_law_cells", "_law_keeps"] spDone := by
  have sc := scDone
  refine F.ok sc (fun vs H Q E h => ?_) (fun cdv A outer s0 H vs Q E hr h => ?_)
  · obtain ⟨a, cl, kp, m, rows, s, out, B, rfl, _⟩ := h
    rfl
  · obtain ⟨a, cl, kp, m, rows, s, out, B, rfl, ⟨a', b, p, ea, ha, hb⟩, hdone, hok, hC, hK, hB, hbc, hstep, k⟩ := h
    cases ea
    have hu := hu_of hr
    obtain ⟨ck, hck⟩ := hC.some
    obtain ⟨kk, hkk⟩ := hK.some
    have ncl : cl ≠ kp := ne_of hck hkk (by intro z; cases z)
    refine ⟨_,
(pss_cons (ps_set (i := 3) sc.nd rfl (Or.inl rfl) (pe_ix ix_tup (pv 0) pe_int (fun _ _ => rfl)))
(pss_cons (ps_if (pt_cmpR op_eq (pv 3) pe_str (nomark _))
(pss_one (ps_ret (pe_tup (pa_cons (pe_ix ix_tup (pv 0) pe_int (fun _ _ => rfl)) (pa_cons (pe_dget hu (pv 1) (pe_ix ix_tup (pv 0) pe_int (fun _ _ => rfl)) (fun _ _ => rfl)) pa_nil)))))
pss_nil)
(pss_cons (ps_if (pt_cmpR op_eq (pv 3) pe_str (nomark _))
(pss_cons (ps_dput hu (pv 2) (pe_tup (pa_cons pe_str (pa_cons (pe_ix ix_tup (pv 0) pe_int (fun _ _ => rfl)) pa_nil))) (pe_dget hu (pv 1) (pe_ix ix_tup (pv 0) pe_int (fun _ _ => rfl)) (fun _ _ => rfl)) rfl)
(pss_one (ps_ret (pe_tup (pa_cons (pe_ix ix_tup (pv 0) pe_int (fun _ _ => rfl)) (pa_cons (pe_dget hu (pv 1) (pe_ix ix_tup (pv 0) pe_int (fun _ _ => rfl)) (fun _ _ => rfl)) pa_nil))))))
pss_nil)
(pss_cons (ps_if (pt_cmpR op_eq (pv 3) pe_str (nomark _))
(pss_one (ps_ret (pe_tup (pa_cons (pe_ifExp (pt_cmpR op_isN (pe_ix ix_tup (pv 0) pe_int (fun _ _ => rfl)) pe_non (nomark _)) pe_non (pe_dget hu (pv 1) (pe_ix ix_tup (pv 0) pe_int (fun _ _ => rfl)) (fun _ _ => rfl))) pa_nil))))
pss_nil)
(pss_cons (ps_if (pt_cmpR op_eq (pv 3) pe_str (nomark _))
(pss_cons (ps_dput hu (pv 1) (pe_ix ix_tup (pv 0) pe_int (fun _ _ => rfl)) (pe_dget2 hu (pv 2) (pe_tup (pa_cons (pe_ix ix_tup (pv 0) pe_int (fun _ _ => rfl)) (pa_cons (pe_ix ix_tup (pv 0) pe_int (fun _ _ => rfl)) pa_nil))) (pe_op op_mul (pe_callB (call_len) (by rfl) T.len PySem.boot_len (pa_cons (pe_op op_add_str (pe_ix ix_tup (pv 0) pe_int (fun _ _ => rfl)) (pe_ix ix_tup (pv 0) pe_int (fun _ _ => rfl))) pa_nil)) pe_int) ⟨rfl, rfl, rfl, rfl⟩) rfl)
(pss_one (ps_ret (pe_tup (pa_cons (pe_ix ix_tup (pv 0) pe_int (fun _ _ => rfl)) (pa_cons (pe_ix ix_tup (pv 0) pe_int (fun _ _ => rfl)) pa_nil))))))
pss_nil)
(pss_cons (ps_if (pt_cmpR op_eq (pv 3) pe_str (nomark _))
(pss_cons (ps_setLc (i := 5) (own := [("_law_cell", 6)]) rfl sc.nd rfl rfl (sw_true rfl rfl rfl (by decide +kernel)) (pi_tup (pe_ix ix_tup (pv 0) pe_int (fun _ _ => rfl))) (blkOk_by (own := [("_law_cell", 6)]) (N := ["_law_row", "_law_cells", "_law_keeps", "_law_word", "_law_worth", "_law_worths", "_law_cell"]) (sc := defScope (topS 24)) (by decide +kernel)) (fun _ _ _ _ _ => (pg_name (i := 6) sc.nd rfl (Or.inl rfl))) (fun _ _ _ _ _ => pts_nil) (fun _ _ _ _ _ => (pe_dget hu (pv 1) (pv 6) (fun _ _ => rfl))))
(pss_cons (ps_if (pt_cmpR op_notN (pe_ix ix_tup (pv 0) pe_int (fun _ _ => rfl)) pe_non (nomark _))
(pss_one (ps_dput hu (pv 1) (pe_ix ix_tup (pv 0) pe_int (fun _ _ => rfl)) (pe_callD D_came (hr.mono (by omega)) (by rfl) (pa_cons (pe_ix ix_tup (pv 0) pe_int (fun _ _ => rfl)) (pa_cons (pe_ix ix_tup (pv 0) pe_int (fun _ _ => rfl)) (pa_cons (pv 5) pa_nil)))) rfl))
pss_nil)
(pss_one (ps_ret (pe_tup (pa_cons (pe_ix ix_tup (pv 0) pe_int (fun _ _ => rfl)) (pa_cons (pe_ix ix_tup (pv 0) pe_int (fun _ _ => rfl)) (pa_cons (pv 5) pa_nil))))))))
pss_nil)
(pss_cons (ps_set (i := 4) sc.nd rfl (Or.inl rfl) (pe_callD D_reckon (hr.mono (by omega)) (by rfl) (pa_cons (pv 3) (pa_cons (pe_dget hu (pv 1) (pe_ix ix_tup (pv 0) pe_int (fun _ _ => rfl)) (fun _ _ => rfl)) (pa_cons (pe_dget hu (pv 1) (pe_ix ix_tup (pv 0) pe_int (fun _ _ => rfl)) (fun _ _ => rfl)) pa_nil)))))
(pss_cons (ps_if (pt_val (pe_callB (call_isi) (by rfl) T.isinstance (by decide +kernel) (pa_cons (pv 4) (pa_cons (pe_bltn (v := .ty "str") (by rfl) T.str (by decide +kernel) rfl) pa_nil))))
(pss_one (ps_ret (pe_tup (pa_cons (pv 4) pa_nil))))
pss_nil)
(pss_cons (ps_dput hu (pv 1) (pe_ix ix_tup (pv 0) pe_int (fun _ _ => rfl)) (pv 4) rfl)
(pss_one (ps_ret (pe_tup pa_nil))))))))))))
    , ?_⟩
    refine ⟨_, rfl, _, _, _, _, rfl, rfl, SqT.of ha, (at0 m b p), ?_⟩
    cases m with
    | say kd c =>
      refine ⟨_, rfl, rfl, _, rfl, iT (by rfl) ?_⟩
      simp only [mstep] at hstep
      cases e : s.cells c with
      | none => rw [e] at hstep; cases hstep
      | some v =>
        rw [e] at hstep
        cases hstep
        refine ⟨_, rfl, _, _, _, _, rfl, rfl, SqT.of ha, rfl, _, rfl, _, rfl, _, _, _, _, rfl, rfl, SqT.of ha, rfl, cl, _, rfl, hC.get e, (by show 2 ≤ sizeLine; decide), fun t ht => ?_⟩
        exact k t _ (Kp.same (same_new ht)) ⟨.inr ⟨rfl, _, _, upd_same, by simp, rfl, short_no hok⟩, (hC.at (upd_ne (ne_of_none hck ht))).mono (by omega), (hK.at (upd_ne (ne_of_none hkk ht))).mono (by omega)⟩
    | lay kd c =>
      refine ⟨_, rfl, rfl, _, rfl, iF (by rfl) ⟨_, rfl, rfl, _, rfl, iT (by rfl) ?_⟩⟩
      simp only [mstep] at hstep
      cases e : s.cells c with
      | none => rw [e] at hstep; cases hstep
      | some v =>
        rw [e] at hstep
        cases hstep
        refine ⟨_, rfl, _, rfl, _, _, _, _, rfl, rfl, SqT.of ha, rfl, cl, _, rfl, hC.get e, _, rfl, _, rfl, _, _, _, _, rfl, rfl, SqT.of ha, rfl, (by show 2 ≤ sizeLine; decide), fun t1 ht1 => ?_⟩
        have E1 := same_new (o := .tup [.str "f", .str kd]) ht1
        have hC1 := hC.at (upd_ne (o := .tup [.str "f", .str kd]) (ne_of_none hck ht1))
        have hK1 := hK.at (upd_ne (o := .tup [.str "f", .str kd]) (ne_of_none hkk ht1))
        obtain ⟨H2, hp, hK2, o, rfl⟩ := hK1.put "f" kd v (by omega) upd_same
        refine ⟨kp, _, rfl, hp, ?_⟩
        have hC2 := hC1.at (upd_ne (o := o) ncl)
        have ha2 : (upd (upd H t1 (.tup [.str "f", .str kd])) kp o) a = _ := (upd_ne (ne_of (E1 _ _ ha) (E1 _ _ hkk) (by intro z; cases z))).trans (E1 _ _ ha)
        refine ⟨_, rfl, _, _, _, _, rfl, rfl, SqT.of ha2, rfl, _, rfl, _, rfl, _, _, _, _, rfl, rfl, SqT.of ha2, rfl, cl, _, rfl, hC2.get e, (by show 2 ≤ sizeLine; decide), fun t ht => ?_⟩
        obtain ⟨ck2, hck2⟩ := hC2.some
        obtain ⟨kk2, hkk2⟩ := hK2.some
        refine k t _ ((Kp.same E1).trans ((Kp.upd (by simp)).trans (Kp.same (same_new ht)))) ⟨.inr ⟨rfl, _, _, upd_same, by simp, rfl, short_no hok⟩, (hC2.at (upd_ne (ne_of_none hck2 ht))).mono (by omega), hK2.at (upd_ne (ne_of_none hkk2 ht))⟩
    | give co =>
      refine ⟨_, rfl, rfl, _, rfl, iF (by rfl) ⟨_, rfl, rfl, _, rfl, iF (by rfl) ⟨_, rfl, rfl, _, rfl, iT (by rfl) ?_⟩⟩⟩
      refine ⟨_, rfl, _, _, _, _, rfl, rfl, SqT.of ha, rfl, rfl, _, rfl, ?_⟩
      cases co with
      | none =>
        cases hstep
        refine iT (by rfl) ⟨by show 1 ≤ sizeLine; decide, fun t ht => ?_⟩
        exact k t _ (Kp.same (same_new ht)) ⟨false, .inr ⟨rfl, _, _, upd_same, by simp, rfl, rfl⟩, .inr ⟨_, rfl⟩⟩
      | some c =>
        simp only [mstep] at hstep
        cases e : s.cells c with
        | none => rw [e] at hstep; cases hstep
        | some v =>
          rw [e] at hstep
          cases hstep
          refine iF (by rfl) ⟨_, rfl, _, rfl, _, _, _, _, rfl, rfl, SqT.of ha, rfl, cl, _, rfl, hC.get e, (by show 1 ≤ sizeLine; decide), fun t ht => ?_⟩
          exact k t _ (Kp.same (same_new ht)) ⟨false, .inr ⟨rfl, _, _, upd_same, by simp, rfl, rfl⟩, .inr ⟨_, rfl⟩⟩
    | fetch c f n =>
      refine ⟨_, rfl, rfl, _, rfl, iF (by rfl) ⟨_, rfl, rfl, _, rfl, iF (by rfl) ⟨_, rfl, rfl, _, rfl, iF (by rfl) ⟨_, rfl, rfl, _, rfl, iT (by rfl) ?_⟩⟩⟩⟩
      cases hstep
      have hfn : (f ++ n).length = f.length + n.length := by
        show (f.cps ++ n.cps).size = _
        rw [Array.size_append]
        rfl
      have hokl : f.length ≤ 3 ∧ n.length ≤ 3 := hok
      refine ⟨_, rfl, kp, rfl, hK.isD, _, rfl, _, _, _, _, rfl, rfl, SqT.of ha, rfl, _, rfl, _, _, _, _, rfl, rfl, SqT.of ha, rfl, (by show 2 ≤ sizeLine; decide), fun t1 ht1 => ?_⟩
      have E1 := same_new (o := .tup [.str f, .str n]) ht1
      have hC1 := hC.at (upd_ne (o := .tup [.str f, .str n]) (ne_of_none hck ht1))
      have hK1 := hK.at (upd_ne (o := .tup [.str f, .str n]) (ne_of_none hkk ht1))
      have ha1 := E1 _ _ ha
      refine ⟨_, rfl, _, _, _, _, rfl, rfl, SqT.of ha1, rfl, _, rfl, _, _, _, _, rfl, rfl, SqT.of ha1, rfl, _, _, rfl, rfl, sz (by omega), _, (f ++ n).length, rfl, ⟨sz (by omega), rfl⟩, _, _, rfl, rfl, .inr ⟨by decide, by decide⟩, _, hK1.get upd_same, ?_⟩
      obtain ⟨H2, hp, hC2, o, rfl⟩ := hC1.put c (kept s.keeps f n) (by omega)
      have ev : ((s.keeps f n).map V.int).getD (V.int ((((f ++ n).length : Nat) : Int) * 11)) = V.int (kept s.keeps f n) := by
        unfold kept
        cases s.keeps f n <;> rfl
      refine ⟨_, rfl, _, rfl, _, _, _, _, rfl, rfl, SqT.of ha1, rfl, cl, _, rfl, (by rw [ev]; exact hp), ?_⟩
      have hK2 := hK1.at (upd_ne (o := o) ncl.symm)
      have ha2 : (upd (upd H t1 (.tup [.str f, .str n])) cl o) a = _ := (upd_ne (ne_of ha1 (E1 _ _ hck) (by intro z; cases z))).trans ha1
      refine ⟨_, rfl, _, _, _, _, rfl, rfl, SqT.of ha2, rfl, _, rfl, _, _, _, _, rfl, rfl, SqT.of ha2, rfl, (by show 2 ≤ sizeLine; decide), fun t ht => ?_⟩
      obtain ⟨ck2, hck2⟩ := hC2.some
      obtain ⟨kk2, hkk2⟩ := hK2.some
      exact k t _ ((Kp.same E1).trans ((Kp.upd (by simp)).trans (Kp.same (same_new ht)))) ⟨.inr ⟨rfl, _, _, upd_same, by simp, rfl, short_no hokl.1⟩, hC2.at (upd_ne (ne_of_none hck2 ht)), (hK2.at (upd_ne (ne_of_none hkk2 ht))).mono (by omega)⟩
    | call co f n as =>
      refine ⟨_, rfl, rfl, _, rfl, iF (by rfl) ⟨_, rfl, rfl, _, rfl, iF (by rfl) ⟨_, rfl, rfl, _, rfl, iF (by rfl) ⟨_, rfl, rfl, _, rfl, iF (by rfl) ⟨_, rfl, rfl, _, rfl, iT (by rfl) ?_⟩⟩⟩⟩⟩
      have hokl : f.length ≤ 3 ∧ n.length ≤ 3 ∧ as.length ≤ 3 := hok
      have hbt : H b = some (.tup (as.map V.int)) := hb
      simp only [mstep] at hstep
      cases e : allOf s.cells as with
      | none => rw [e] at hstep; cases hstep
      | some ws =>
        rw [e] at hstep
        cases hstep
        obtain ⟨hlen, hget⟩ := allOf_get e
        refine ⟨_, rfl, _, _, _, _, rfl, rfl, SqT.of ha, rfl, b, rfl, ⟨_, SqT.of hbt⟩, fun D hD => ?_⟩
        refine lc_tup (K := K) (a := b) (xs := as.map V.int) (fun i H' => H' = upd H D (.lst ((ws.take i).map V.int))) rfl ?_ ?_ ?_
        · rintro i H' _ rfl
          exact SqT.of (same_new hD _ _ hbt)
        · rintro i x H' hx rfl
          have hi : i < as.length := by
            have := (List.getElem?_eq_some_iff.mp hx).1
            rw [List.length_map] at this
            exact this
          rw [List.getElem?_map, List.getElem?_eq_getElem hi] at hx
          obtain rfl : V.int as[i] = x := Option.some.inj hx
          obtain ⟨v, hv, ev⟩ := hget i _ (List.getElem?_eq_getElem hi)
          refine ⟨rfl, _, rfl, _, rfl, cl, _, rfl, (hC.at (upd_ne (ne_of_none hck hD))).get ev, _, upd_same, ?_, ?_⟩
          · rw [List.length_map, List.length_take]
            have : H b = _ := hbt
            have hl := hlen
            have h3 := hokl.2.2
            exact szl (by omega)
          · show upd (upd H D _) D _ = _
            rw [upd_upd, List.take_add_one, hv, List.map_append]
            rfl
        · rintro H' rfl
          have E1 := same_new (o := .lst ((ws.take (as.map V.int).length).map V.int)) hD
          have hD1 := @upd_same H D (.lst ((ws.take (as.map V.int).length).map V.int))
          rw [List.length_map, hlen, List.take_length] at E1 hD1 ⊢
          have hC1 := hC.at (upd_ne (o := .lst (ws.map V.int)) (ne_of_none hck hD))
          have hK1 := hK.at (upd_ne (o := .lst (ws.map V.int)) (ne_of_none hkk hD))
          generalize upd H D (.lst (ws.map V.int)) = H1 at E1 hD1 hC1 hK1 ⊢
          have ha1 := E1 _ _ ha
          obtain ⟨ck1, hck1⟩ := hC1.some
          obtain ⟨kk1, hkk1⟩ := hK1.some
          refine ⟨_, rfl, _, _, _, _, rfl, rfl, SqT.of ha1, rfl, rfl, _, rfl, ?_⟩
          cases co with
          | none =>
            refine iF (by rfl) ⟨_, rfl, _, _, _, _, rfl, rfl, SqT.of ha1, rfl, _, rfl, _, _, _, _, rfl, rfl, SqT.of ha1, rfl, _, rfl, (by show 3 ≤ sizeLine; decide), fun t ht => ?_⟩
            exact k t _ ((Kp.same E1).trans (Kp.same (same_new ht))) ⟨.inr ⟨rfl, _, _, upd_same, by simp, rfl, short_no hokl.1⟩, (hC1.at (upd_ne (ne_of_none hck1 ht))).mono (by omega), (hK1.at (upd_ne (ne_of_none hkk1 ht))).mono (by omega)⟩
          | some c =>
            refine iT (by rfl) ⟨_, rfl, _, _, _, _, rfl, rfl, SqT.of ha1, rfl, _, rfl, _, _, _, _, rfl, rfl, SqT.of ha1, rfl, _, rfl, f, n, D, ws, rfl, SqL.of hD1, hokl.1, hokl.2.1, ?_⟩
            obtain ⟨H2, hp, hC2, o, rfl⟩ := hC1.put c (came f n ws) (by omega)
            refine ⟨_, rfl, _, rfl, _, _, _, _, rfl, rfl, SqT.of ha1, rfl, cl, _, rfl, hp, ?_⟩
            have hK2 := hK1.at (upd_ne (o := o) ncl.symm)
            have ha2 : (upd H1 cl o) a = _ := (upd_ne (ne_of ha1 hck1 (by intro z; cases z))).trans ha1
            refine ⟨_, rfl, _, _, _, _, rfl, rfl, SqT.of ha2, rfl, _, rfl, _, _, _, _, rfl, rfl, SqT.of ha2, rfl, _, rfl, (by show 3 ≤ sizeLine; decide), fun t ht => ?_⟩
            obtain ⟨ck2, hck2⟩ := hC2.some
            obtain ⟨kk2, hkk2⟩ := hK2.some
            exact k t _ ((Kp.same E1).trans ((Kp.upd (by simp)).trans (Kp.same (same_new ht)))) ⟨.inr ⟨rfl, _, _, upd_same, by simp, rfl, short_no hokl.1⟩, hC2.at (upd_ne (ne_of_none hck2 ht)), (hK2.at (upd_ne (ne_of_none hkk2 ht))).mono (by omega)⟩
    | op o c d e =>
      refine ⟨_, rfl, rfl, _, rfl, iF (by cases o <;> rfl) ⟨_, rfl, rfl, _, rfl, iF (by cases o <;> rfl) ⟨_, rfl, rfl, _, rfl, iF (by cases o <;> rfl) ⟨_, rfl, rfl, _, rfl, iF (by cases o <;> rfl) ⟨_, rfl, rfl, _, rfl, iF (by cases o <;> rfl) ?_⟩⟩⟩⟩⟩
      simp only [mstep] at hstep
      cases e1 : s.cells d with
      | none => rw [e1] at hstep; cases hstep
      | some va =>
        cases e2 : s.cells e with
        | none => rw [e1, e2] at hstep; cases hstep
        | some vb =>
          rw [e1, e2] at hstep
          dsimp only at hstep
          refine ⟨_, rfl, _, rfl, _, rfl, _, _, _, _, rfl, rfl, SqT.of ha, rfl, cl, _, rfl, hC.get e1, _, rfl, _, rfl, _, _, _, _, rfl, rfl, SqT.of ha, rfl, cl, _, rfl, hC.get e2, o, va, vb, rfl, hbc _ _ e1, hbc _ _ e2, ?_⟩
          cases er : reck o va vb with
          | val v =>
            rw [er] at hstep
            cases hstep
            refine ⟨_, rfl, _, _, _, _, _, rfl, .ty "str", .base (.int _), kit_ty (by decide +kernel), _, rfl, iF rfl ?_⟩
            obtain ⟨H2, hp, hC2, o2, rfl⟩ := hC.put c v (by omega)
            refine ⟨_, rfl, _, rfl, _, rfl, _, _, _, _, rfl, rfl, SqT.of ha, rfl, cl, _, rfl, hp, Nat.zero_le _, fun t ht => ?_⟩
            obtain ⟨ck2, hck2⟩ := hC2.some
            have hK2 := hK.at (upd_ne (o := o2) ncl.symm)
            obtain ⟨kk2, hkk2⟩ := hK2.some
            exact k t _ ((Kp.upd (by simp)).trans (Kp.same (same_new ht))) ⟨.inl ⟨rfl, rfl, upd_same⟩, hC2.at (upd_ne (ne_of_none hck2 ht)), (hK2.at (upd_ne (ne_of_none hkk2 ht))).mono (by omega)⟩
          | nought =>
            rw [er] at hstep
            cases hstep
            refine ⟨_, rfl, _, _, _, _, _, rfl, .ty "str", .base (.str _), kit_ty (by decide +kernel), _, rfl, iT rfl ⟨_, rfl, by show 1 ≤ sizeLine; decide, fun t ht => ?_⟩⟩
            exact k t _ (Kp.same (same_new ht)) ⟨true, .inr ⟨rfl, _, _, upd_same, by simp, rfl, rfl⟩, .inl rfl⟩
          | great =>
            rw [er] at hstep
            cases hstep
            refine ⟨_, rfl, _, _, _, _, _, rfl, .ty "str", .base (.str _), kit_ty (by decide +kernel), _, rfl, iT rfl ⟨_, rfl, by show 1 ≤ sizeLine; decide, fun t ht => ?_⟩⟩
            exact k t _ (Kp.same (same_new ht)) ⟨true, .inr ⟨rfl, _, _, upd_same, by simp, rfl, rfl⟩, .inl rfl⟩
    | _ => exact hdone.elim
end
end K48
set_option maxHeartbeats 8000000
set_option linter.all false
/-! _law_worked -/
namespace K48
open PySem L2
def KR.isWork : KR → Prop
  | .say _ _ => True
  | .lay _ _ => True
  | .give _ _ => True
  | .fetch _ _ _ => True
  | .call _ _ _ _ => True
  | .op _ _ => True
  | _ => False
def KrOk : KR → Prop
  | .push n _ => Bnd n
  | .fetch f n _ => f.length ≤ 3 ∧ n.length ≤ 3
  | .lay n _ => n.length ≤ 3
  | .say k _ => k.length ≤ 3
  | .call f n _ _ => f.length ≤ 3 ∧ n.length ≤ 3
  | _ => True
def WorkRes (H' : Hp) (pl kp t : Addr) (B : Nat) (kr : KR) : KOut → Prop
  | .next evs s' => ToldAt H' t evs false ∧ H' pl = some (.lst (s'.pile.map V.int)) ∧ KeepsAt H' kp s'.keeps (B + 1)
  | .stop evs => ∃ fin, ToldAt H' t evs fin ∧ (fin = true ∨ ∃ m k, kr = .give m k)
theorem popped_eq {p q : List Int} {v : Int} (h : popped p = some (q, v)) : p = q ++ [v] := by
  unfold popped at h
  cases e : p.getLast? with
  | none => rw [e] at h; cases h
  | some x =>
    rw [e] at h
    cases h
    obtain ⟨ys, rfl⟩ := List.getLast?_eq_some_iff.mp e
    simp
theorem pop_at (q : List Int) (v : Int) : ((q ++ [v]).map V.int)[((q ++ [v]).map V.int).length - 1]? = some (.int v) := by
  simp
theorem pop_drop (q : List Int) (v : Int) : ((q ++ [v]).map V.int).dropLast = q.map V.int := by
  simp
theorem pop_last (q : List Int) (v : Int) : atI ((q ++ [v]).map V.int) (-1) = some (.int v) := by
  have := atI_last (q.map V.int) (V.int v)
  rw [List.map_append]
  exact this
theorem kat_last (r : KR) : atI r.tup ((r.tup.length : Int) - 1) = some (.int r.k) := by
  cases r <;> rfl
section
variable {P : Program} {w : World} {K : PySem.W.Frag} {mg : Str → Option Value} {base : Heap} {aO aL : Addr}
def spWorked : Sp := fun vs H Q _ => ∃ (a mh pl kp : Addr) (kr : KR) (mm : MR) (rows : List MR) (s : KS) (out : KOut) (B : Nat), vs = [.ref a, .ref mh, .ref pl, .ref kp] ∧
  H a = some (.tup kr.tup) ∧ RowV H (.ref mh) mm ∧ rows[kr.k.toNat]? = some mm ∧ kr.isWork ∧ KrOk kr ∧
  H pl = some (.lst (s.pile.map V.int)) ∧ s.pile.length ≤ 900000 ∧ KeepsAt H kp s.keeps B ∧ B ≤ 900000 ∧ (∀ v ∈ s.pile, Bnd v) ∧ kstep rows s kr = some out ∧
  ∀ (t : Addr) (H' : Hp), Kp [pl, kp] H H' → WorkRes H' pl kp t B kr out → Q (.ref t) H'
theorem scWorked : FnScope ["_law_row", "_law_middle_here", "_law_pile", "_law_keeps", "_law_word", "_law_other", "_law_worth", "_law_worths", "_law_again"] ["_law_row", "_law_middle_here", "_law_pile", "_law_keeps"] (defScope (topS 26)) := ⟨rfl, rfl, rfl, by decide +kernel, rfl, by decide +kernel, by decide +kernel⟩
theorem fn_worked {f : Addr} {fd : FuncData} (F : Fun K "_law_worked" "_law_worked" (topS 26) f fd) (T : Blt K mg aO aL)
    (D_reckon : Dfn P w K mg base "_law_reckon" 1 ["_law_word", "_law_one", "_law_other"] spReckon)
    (D_came : Dfn P w K mg base "_law_came" 1 ["_law_file", "_law_name", "_law_worths"] (spCame K)) :
    FnOk P w K mg base CX0 2 f fd ["_law_row", "_law_middle_here", "_law_pile", "_law_keeps"] spWorked := by
  have sc := scWorked
  refine F.ok sc (fun vs H Q E h => ?_) (fun cdv A outer s0 H vs Q E hr h => ?_)
  · obtain ⟨a, mh, pl, kp, kr, mm, rows, s, out, B, rfl, _⟩ := h
    rfl
  · obtain ⟨a, mh, pl, kp, kr, mm, rows, s, out, B, rfl, ha, ⟨mh', mb, mp, em, hm, _⟩, hmm, hwork, hok, hP, hpl, hK, hB, hbp, hstep, k⟩ := h
    cases em
    have hu := hu_of hr
    obtain ⟨kk, hkk⟩ := hK.some
    have npk : pl ≠ kp := ne_of hP hkk (by intro z; cases z)
    have nap : a ≠ pl := ne_of ha hP (by intro z; cases z)
    have nak : a ≠ kp := ne_of ha hkk (by intro z; cases z)
    have nmp : mh ≠ pl := ne_of hm hP (by intro z; cases z)
    refine ⟨_,
(pss_cons (ps_set (i := 4) sc.nd rfl (Or.inl rfl) (pe_ix ix_tup (pv 0) pe_int (fun _ _ => rfl)))
(pss_cons (ps_if (pt_cmpR op_eq (pv 4) pe_str (nomark _))
(pss_one (ps_ret (pe_tup (pa_cons (pe_ix ix_tup (pv 0) pe_int (fun _ _ => rfl)) (pa_cons (pe_bm0 PySem.F.plainAttrs_list PySem.F.slot_list_pop PySem.F.type_list_pop mt_pop (pv 2)) pa_nil)))))
pss_nil)
(pss_cons (ps_if (pt_cmpR op_eq (pv 4) pe_str (nomark _))
(pss_cons (ps_dput hu (pv 3) (pe_tup (pa_cons pe_str (pa_cons (pe_ix ix_tup (pv 0) pe_int (fun _ _ => rfl)) pa_nil))) (pe_ix ix_list (pv 2) (pe_un un_neg pe_int) (fun _ _ => rfl)) rfl)
(pss_one (ps_ret (pe_tup (pa_cons (pe_ix ix_tup (pv 0) pe_int (fun _ _ => rfl)) (pa_cons (pe_bm0 PySem.F.plainAttrs_list PySem.F.slot_list_pop PySem.F.type_list_pop mt_pop (pv 2)) pa_nil))))))
pss_nil)
(pss_cons (ps_if (pt_cmpR op_eq (pv 4) pe_str (nomark _))
(pss_one (ps_ret (pe_tup (pa_cons (pe_ifExp (pt_cmpR op_eq (pe_ix ix_tup (pv 0) pe_int (fun _ _ => rfl)) pe_int (nomark _)) (pe_bm0 PySem.F.plainAttrs_list PySem.F.slot_list_pop PySem.F.type_list_pop mt_pop (pv 2)) pe_non) pa_nil))))
pss_nil)
(pss_cons (ps_if (pt_cmpR op_eq (pv 4) pe_str (nomark _))
(pss_cons (ps_expr (pe_bm PySem.F.plainAttrs_list PySem.F.slot_list_append PySem.F.type_list_append mt_append (pv 2) (pa_cons (pe_dget2 hu (pv 3) (pe_tup (pa_cons (pe_ix ix_tup (pv 0) pe_int (fun _ _ => rfl)) (pa_cons (pe_ix ix_tup (pv 0) pe_int (fun _ _ => rfl)) pa_nil))) (pe_op op_mul (pe_callB (call_len) (by rfl) T.len PySem.boot_len (pa_cons (pe_op op_add_str (pe_ix ix_tup (pv 0) pe_int (fun _ _ => rfl)) (pe_ix ix_tup (pv 0) pe_int (fun _ _ => rfl))) pa_nil)) pe_int) ⟨rfl, rfl, rfl, rfl⟩) pa_nil)))
(pss_one (ps_ret (pe_tup (pa_cons (pe_ix ix_tup (pv 0) pe_int (fun _ _ => rfl)) (pa_cons (pe_ix ix_tup (pv 0) pe_int (fun _ _ => rfl)) pa_nil))))))
pss_nil)
(pss_cons (ps_if (pt_cmpR op_eq (pv 4) pe_str (nomark _))
(pss_cons (ps_set (i := 7) sc.nd rfl (Or.inl rfl) (pe_revL (pe_lc (own := [("_law_again", 8)]) rfl sc.nd (pi_range1 (by rfl) T.range (pa_cons (pe_ix ix_tup (pv 0) pe_int (fun _ _ => rfl)) pa_nil)) (blkOk_by (own := [("_law_again", 8)]) (N := ["_law_row", "_law_middle_here", "_law_pile", "_law_keeps", "_law_word", "_law_other", "_law_worth", "_law_worths", "_law_again"]) (sc := defScope (topS 26)) (by decide +kernel)) (fun _ _ _ _ _ => (pg_name (i := 8) sc.nd rfl (Or.inl rfl))) (fun _ _ _ _ _ => pts_nil) (fun _ _ _ _ _ => (pe_popK (K := K) rfl (pv 2))))))
(pss_cons (ps_if (pt_cmpR op_notN (pe_ix ix_tup (pv 1) pe_int (fun _ _ => rfl)) pe_non (nomark _))
(pss_one (ps_expr (pe_bm PySem.F.plainAttrs_list PySem.F.slot_list_append PySem.F.type_list_append mt_append (pv 2) (pa_cons (pe_callD D_came (hr.mono (by omega)) (by rfl) (pa_cons (pe_ix ix_tup (pv 0) pe_int (fun _ _ => rfl)) (pa_cons (pe_ix ix_tup (pv 0) pe_int (fun _ _ => rfl)) (pa_cons (pv 7) pa_nil)))) pa_nil))))
pss_nil)
(pss_one (ps_ret (pe_tup (pa_cons (pe_ix ix_tup (pv 0) pe_int (fun _ _ => rfl)) (pa_cons (pe_ix ix_tup (pv 0) pe_int (fun _ _ => rfl)) (pa_cons (pv 7) pa_nil))))))))
pss_nil)
(pss_cons (ps_set (i := 5) sc.nd rfl (Or.inl rfl) (pe_bm0 PySem.F.plainAttrs_list PySem.F.slot_list_pop PySem.F.type_list_pop mt_pop (pv 2)))
(pss_cons (ps_set (i := 6) sc.nd rfl (Or.inl rfl) (pe_callD D_reckon (hr.mono (by omega)) (by rfl) (pa_cons (pv 4) (pa_cons (pe_bm0 PySem.F.plainAttrs_list PySem.F.slot_list_pop PySem.F.type_list_pop mt_pop (pv 2)) (pa_cons (pv 5) pa_nil)))))
(pss_cons (ps_if (pt_val (pe_callB (call_isi) (by rfl) T.isinstance (by decide +kernel) (pa_cons (pv 6) (pa_cons (pe_bltn (v := .ty "str") (by rfl) T.str (by decide +kernel) rfl) pa_nil))))
(pss_one (ps_ret (pe_tup (pa_cons (pv 6) pa_nil))))
pss_nil)
(pss_cons (ps_expr (pe_bm PySem.F.plainAttrs_list PySem.F.slot_list_append PySem.F.type_list_append mt_append (pv 2) (pa_cons (pv 6) pa_nil)))
(pss_one (ps_ret (pe_tup pa_nil)))))))))))))
    , ?_⟩
    refine ⟨_, rfl, _, _, _, _, rfl, rfl, SqT.of ha, (kat0 kr), ?_⟩
    cases kr with
    | say kd i =>
      refine ⟨_, rfl, rfl, _, rfl, iT (by rfl) ?_⟩
      simp only [kstep] at hstep
      cases e : popped s.pile with
      | none => rw [e] at hstep; cases hstep
      | some pv =>
        obtain ⟨q, v⟩ := pv
        rw [e] at hstep
        cases hstep
        have ep := popped_eq e
        rw [ep] at hP
        refine ⟨_, rfl, _, _, _, _, rfl, rfl, SqT.of ha, rfl, _, rfl, .inl ⟨rfl, _, SqL.of hP⟩, pl, _, _, rfl, rfl, hP, pop_at q v, (by show 2 ≤ sizeLine; decide), fun t ht => ?_⟩
        rw [pop_drop] at ht ⊢
        refine k t _ ((Kp.upd (by simp)).trans (Kp.same (same_new ht))) ⟨.inr ⟨rfl, _, _, upd_same, by simp, rfl, short_no hok⟩, same_new ht _ _ upd_same, ?_⟩
        have hK1 := hK.at (upd_ne (o := .lst (q.map V.int)) npk.symm)
        obtain ⟨kk1, hkk1⟩ := hK1.some
        exact (hK1.at (upd_ne (ne_of_none hkk1 ht))).mono (by omega)
    | lay kd i =>
      refine ⟨_, rfl, rfl, _, rfl, iF (by rfl) ⟨_, rfl, rfl, _, rfl, iT (by rfl) ?_⟩⟩
      simp only [kstep] at hstep
      cases e : popped s.pile with
      | none => rw [e] at hstep; cases hstep
      | some pv =>
        obtain ⟨q, v⟩ := pv
        rw [e] at hstep
        cases hstep
        have ep := popped_eq e
        rw [ep] at hP
        refine ⟨_, rfl, _, rfl, _, _, _, _, rfl, rfl, SqL.of hP, pop_last q v, _, rfl, _, rfl, _, _, _, _, rfl, rfl, SqT.of ha, rfl, (by show 2 ≤ sizeLine; decide), fun t1 ht1 => ?_⟩
        have E1 := same_new (o := .tup [.str "f", .str kd]) ht1
        have hK1 := hK.at (upd_ne (o := .tup [.str "f", .str kd]) (ne_of_none hkk ht1))
        obtain ⟨H2, hp, hK2, o, rfl⟩ := hK1.put "f" kd v (by omega) upd_same
        refine ⟨kp, _, rfl, hp, ?_⟩
        have hP2 : (upd (upd H t1 (.tup [.str "f", .str kd])) kp o) pl = _ := (upd_ne npk).trans (E1 _ _ hP)
        have ha2 : (upd (upd H t1 (.tup [.str "f", .str kd])) kp o) a = _ := (upd_ne nak).trans (E1 _ _ ha)
        refine ⟨_, rfl, _, _, _, _, rfl, rfl, SqT.of ha2, rfl, _, rfl, .inl ⟨rfl, _, SqL.of hP2⟩, pl, _, _, rfl, rfl, hP2, pop_at q v, (by show 2 ≤ sizeLine; decide), fun t ht => ?_⟩
        rw [pop_drop] at ht ⊢
        have hK3 := hK2.at (upd_ne (o := .lst (q.map V.int)) npk.symm)
        obtain ⟨kk3, hkk3⟩ := hK3.some
        exact k t _ ((Kp.same E1).trans ((Kp.upd (by simp)).trans ((Kp.upd (by simp)).trans (Kp.same (same_new ht))))) ⟨.inr ⟨rfl, _, _, upd_same, by simp, rfl, short_no hok⟩, same_new ht _ _ upd_same, hK3.at (upd_ne (ne_of_none hkk3 ht))⟩
    | give many i =>
      refine ⟨_, rfl, rfl, _, rfl, iF (by rfl) ⟨_, rfl, rfl, _, rfl, iF (by rfl) ⟨_, rfl, rfl, _, rfl, iT (by rfl) ?_⟩⟩⟩
      simp only [kstep] at hstep
      refine ⟨_, rfl, _, _, _, _, rfl, rfl, SqT.of ha, rfl, rfl, _, rfl, ?_⟩
      by_cases e1 : many = 1
      · rw [if_pos e1] at hstep
        cases e : popped s.pile with
        | none => rw [e] at hstep; cases hstep
        | some pv =>
          obtain ⟨q, v⟩ := pv
          rw [e] at hstep
          cases hstep
          have ep := popped_eq e
          rw [ep] at hP
          refine iT (by rw [e1]; rfl) ⟨_, rfl, .inl ⟨rfl, _, SqL.of hP⟩, pl, _, _, rfl, rfl, hP, pop_at q v, (by show 1 ≤ sizeLine; decide), fun t ht => ?_⟩
          exact k t _ ((Kp.upd (by simp)).trans (Kp.same (same_new ht))) ⟨false, .inr ⟨rfl, _, _, upd_same, by simp, rfl, rfl⟩, .inr ⟨_, _, rfl⟩⟩
      · rw [if_neg e1] at hstep
        cases hstep
        refine iF (decide_eq_false (fun z => e1 (by injection z))) ⟨by show 1 ≤ sizeLine; decide, fun t ht => ?_⟩
        exact k t _ (Kp.same (same_new ht)) ⟨false, .inr ⟨rfl, _, _, upd_same, by simp, rfl, rfl⟩, .inr ⟨_, _, rfl⟩⟩
    | fetch f n i =>
      refine ⟨_, rfl, rfl, _, rfl, iF (by rfl) ⟨_, rfl, rfl, _, rfl, iF (by rfl) ⟨_, rfl, rfl, _, rfl, iF (by rfl) ⟨_, rfl, rfl, _, rfl, iT (by rfl) ?_⟩⟩⟩⟩
      cases hstep
      have hfn : (f ++ n).length = f.length + n.length := by
        show (f.cps ++ n.cps).size = _
        rw [Array.size_append]
        rfl
      have hokl : f.length ≤ 3 ∧ n.length ≤ 3 := hok
      refine ⟨_, rfl, .inl ⟨rfl, _, SqL.of hP⟩, _, rfl, kp, rfl, hK.isD, _, rfl, _, _, _, _, rfl, rfl, SqT.of ha, rfl, _, rfl, _, _, _, _, rfl, rfl, SqT.of ha, rfl, (by show 2 ≤ sizeLine; decide), fun t1 ht1 => ?_⟩
      have E1 := same_new (o := .tup [.str f, .str n]) ht1
      have hK1 := hK.at (upd_ne (o := .tup [.str f, .str n]) (ne_of_none hkk ht1))
      have ha1 := E1 _ _ ha
      have hP1 := E1 _ _ hP
      have ev : ((s.keeps f n).map V.int).getD (V.int ((((f ++ n).length : Nat) : Int) * 11)) = V.int (kept s.keeps f n) := by
        unfold kept
        cases s.keeps f n <;> rfl
      refine ⟨_, rfl, _, _, _, _, rfl, rfl, SqT.of ha1, rfl, _, rfl, _, _, _, _, rfl, rfl, SqT.of ha1, rfl, _, _, rfl, rfl, sz (by omega), _, (f ++ n).length, rfl, ⟨sz (by omega), rfl⟩, _, _, rfl, rfl, .inr ⟨by decide, by decide⟩, _, hK1.get upd_same, ?_⟩
      refine ⟨pl, _, _, rfl, rfl, hP1, by rw [List.length_map]; exact szl (by omega), ?_⟩
      rw [ev]
      have ha2 : (upd (upd H t1 (.tup [.str f, .str n])) pl (.lst (s.pile.map V.int ++ [.int (kept s.keeps f n)]))) a = _ := (upd_ne nap).trans ha1
      refine ⟨_, rfl, _, _, _, _, rfl, rfl, SqT.of ha2, rfl, _, rfl, _, _, _, _, rfl, rfl, SqT.of ha2, rfl, (by show 2 ≤ sizeLine; decide), fun t ht => ?_⟩
      have hK2 := hK1.at (upd_ne (o := .lst (s.pile.map V.int ++ [.int (kept s.keeps f n)])) npk.symm)
      obtain ⟨kk2, hkk2⟩ := hK2.some
      refine k t _ ((Kp.same E1).trans ((Kp.upd (by simp)).trans (Kp.same (same_new ht)))) ⟨.inr ⟨rfl, _, _, upd_same, by simp, rfl, short_no hokl.1⟩, ?_, (hK2.at (upd_ne (ne_of_none hkk2 ht))).mono (by omega)⟩
      rw [same_new ht _ _ upd_same, List.map_append]
      rfl
    | call f n many i =>
      refine ⟨_, rfl, rfl, _, rfl, iF (by rfl) ⟨_, rfl, rfl, _, rfl, iF (by rfl) ⟨_, rfl, rfl, _, rfl, iF (by rfl) ⟨_, rfl, rfl, _, rfl, iF (by rfl) ⟨_, rfl, rfl, _, rfl, iT (by rfl) ?_⟩⟩⟩⟩⟩
      have hokl : f.length ≤ 3 ∧ n.length ≤ 3 := hok
      simp only [kstep] at hstep
      by_cases hc : 0 ≤ many ∧ many.toNat ≤ s.pile.length ∧ 0 ≤ i
      case neg =>
        rw [if_neg hc] at hstep
        cases hstep
      rw [if_pos hc] at hstep
      obtain ⟨hc1, hc2, hc3⟩ := hc
      have hmm' : rows[i.toNat]? = some mm := hmm
      rw [hmm'] at hstep
      cases mm with
      | call co f2 n2 as =>
        cases hstep
        refine ⟨_, rfl, _, _, _, _, rfl, rfl, SqT.of ha, rfl, _, rfl, by omega, by omega, fun D hD => ?_⟩
        have nDp : D ≠ pl := fun z => by rw [z, hP] at hD; cases hD
        refine lc_range (lo := 0) (n := many.toNat) (fun i H' => H' pl = some (.lst ((s.pile.take (s.pile.length - i)).map V.int)) ∧ H' D = some (.lst ((s.pile.drop (s.pile.length - i)).reverse.map V.int)) ∧ ∀ b, b ≠ pl → b ≠ D → H' b = H b) ?_ ?_ ?_
        · refine ⟨?_, ?_, fun b _ n => upd_ne n⟩
          · rw [upd_ne nDp.symm, Nat.sub_zero, List.take_length]
            exact hP
          · rw [upd_same, Nat.sub_zero, List.drop_length]
            rfl
        · rintro j H1 hj ⟨h1, h2, h3⟩
          have hl : s.pile.length - (j + 1) < s.pile.length := by omega
          have e1 : s.pile.take (s.pile.length - j) = s.pile.take (s.pile.length - (j + 1)) ++ [s.pile[s.pile.length - (j + 1)]] := by
            rw [show s.pile.length - j = s.pile.length - (j + 1) + 1 by omega, List.take_add_one, List.getElem?_eq_getElem hl]
            rfl
          have e2 : s.pile.drop (s.pile.length - (j + 1)) = s.pile[s.pile.length - (j + 1)] :: s.pile.drop (s.pile.length - j) := by
            rw [List.drop_eq_getElem_cons hl, show s.pile.length - (j + 1) + 1 = s.pile.length - j by omega]
          rw [e1] at h1
          refine ⟨rfl, _, rfl, .inl ⟨rfl, _, SqL.of h1⟩, pl, _, _, rfl, rfl, h1, pop_at _ _, _, (upd_ne nDp).trans h2, ?_, ?_, ?_, ?_⟩
          · rw [List.length_map, List.length_reverse, List.length_drop]
            exact szl (by omega)
          · rw [upd_ne nDp.symm, upd_same, pop_drop]
          · rw [upd_same, e2, List.reverse_cons, List.map_append]
            rfl
          · intro b n1 n2
            rw [upd_ne n2, upd_ne n1]
            exact h3 b n1 n2
        · rintro H1 ⟨h1, h2, h3⟩
          have ha1 : H1 a = _ := (h3 a nap (ne_of_none ha hD)).trans ha
          have hm1 : H1 mh = _ := (h3 mh nmp (ne_of_none hm hD)).trans hm
          have hK1 := hK.at (h3 kp npk.symm (ne_of_none hkk hD))
          have K1 : Kp [pl, kp] H H1 := fun b o nb e => by
            rw [h3 b (fun z => nb (by simp [z])) (ne_of_none e hD)]
            exact e
          refine ⟨D, _, rfl, SqL.of h2, fun ww hw => ?_⟩
          have er : ((s.pile.drop (s.pile.length - many.toNat)).reverse.map V.int).reverse = (s.pile.drop (s.pile.length - many.toNat)).map V.int := by
            rw [List.map_reverse, List.reverse_reverse]
          rw [er] at *
          have E2 := same_new (o := .lst ((s.pile.drop (s.pile.length - many.toNat)).map V.int)) hw
          have hw2 := @upd_same H1 ww (.lst ((s.pile.drop (s.pile.length - many.toNat)).map V.int))
          have ha2 := E2 _ _ ha1
          have hm2 := E2 _ _ hm1
          have h12 := E2 _ _ h1
          have hK2 : KeepsAt (upd H1 ww (.lst ((s.pile.drop (s.pile.length - many.toNat)).map V.int))) kp s.keeps B := by
            obtain ⟨kk1, hkk1⟩ := hK1.some
            exact hK1.at (upd_ne (ne_of_none hkk1 hw))
          generalize upd H1 ww (.lst ((s.pile.drop (s.pile.length - many.toNat)).map V.int)) = H2 at E2 hw2 ha2 hm2 h12 hK2 ⊢
          have K2 := K1.trans (Kp.same (W := [pl, kp]) E2)
          refine ⟨_, rfl, _, _, _, _, rfl, rfl, SqT.of hm2, rfl, rfl, _, rfl, ?_⟩
          cases co with
          | none =>
            refine iF (by rfl) ⟨_, rfl, _, _, _, _, rfl, rfl, SqT.of ha2, rfl, _, rfl, _, _, _, _, rfl, rfl, SqT.of ha2, rfl, _, rfl, (by show 3 ≤ sizeLine; decide), fun t ht => ?_⟩
            obtain ⟨kk2, hkk2⟩ := hK2.some
            refine k t _ (K2.trans (Kp.same (same_new ht))) ⟨.inr ⟨rfl, _, _, upd_same, by simp, rfl, short_no hokl.1⟩, ?_, (hK2.at (upd_ne (ne_of_none hkk2 ht))).mono (by omega)⟩
            rw [same_new ht _ _ h12, List.append_nil]
          | some c =>
            refine iT (by rfl) ⟨_, rfl, .inl ⟨rfl, _, SqL.of h12⟩, _, rfl, _, _, _, _, rfl, rfl, SqT.of ha2, rfl, _, rfl, _, _, _, _, rfl, rfl, SqT.of ha2, rfl, _, rfl, f, n, ww, _, rfl, SqL.of hw2, hokl.1, hokl.2, ?_⟩
            refine ⟨pl, _, _, rfl, rfl, h12, by rw [List.length_map, List.length_take]; exact szl (by omega), ?_⟩
            have ha3 : (upd H2 pl (.lst ((s.pile.take (s.pile.length - many.toNat)).map V.int ++ [.int (came f n (s.pile.drop (s.pile.length - many.toNat)))]))) a = _ := (upd_ne nap).trans ha2
            refine ⟨_, rfl, _, _, _, _, rfl, rfl, SqT.of ha3, rfl, _, rfl, _, _, _, _, rfl, rfl, SqT.of ha3, rfl, _, rfl, (by show 3 ≤ sizeLine; decide), fun t ht => ?_⟩
            have hK3 := hK2.at (upd_ne (o := .lst ((s.pile.take (s.pile.length - many.toNat)).map V.int ++ [.int (came f n (s.pile.drop (s.pile.length - many.toNat)))])) npk.symm)
            obtain ⟨kk3, hkk3⟩ := hK3.some
            refine k t _ (K2.trans ((Kp.upd (by simp)).trans (Kp.same (same_new ht)))) ⟨.inr ⟨rfl, _, _, upd_same, by simp, rfl, short_no hokl.1⟩, ?_, (hK3.at (upd_ne (ne_of_none hkk3 ht))).mono (by omega)⟩
            rw [same_new ht _ _ upd_same, List.map_append]
            rfl
      | _ => cases hstep
    | op o i =>
      refine ⟨_, rfl, rfl, _, rfl, iF (by cases o <;> rfl) ⟨_, rfl, rfl, _, rfl, iF (by cases o <;> rfl) ⟨_, rfl, rfl, _, rfl, iF (by cases o <;> rfl) ⟨_, rfl, rfl, _, rfl, iF (by cases o <;> rfl) ⟨_, rfl, rfl, _, rfl, iF (by cases o <;> rfl) ?_⟩⟩⟩⟩⟩
      simp only [kstep] at hstep
      cases e1 : popped s.pile with
      | none => rw [e1] at hstep; cases hstep
      | some pv1 =>
        obtain ⟨p, vb⟩ := pv1
        rw [e1] at hstep
        dsimp only at hstep
        cases e2 : popped p with
        | none => rw [e2] at hstep; cases hstep
        | some pv2 =>
          obtain ⟨q, va⟩ := pv2
          rw [e2] at hstep
          dsimp only at hstep
          have ep := popped_eq e1
          have eq := popped_eq e2
          subst eq
          rw [ep] at hP hbp
          refine ⟨_, rfl, .inl ⟨rfl, _, SqL.of hP⟩, pl, _, _, rfl, rfl, hP, pop_at _ vb, ?_⟩
          rw [pop_drop]
          have hP1 := @upd_same H pl (.lst ((q ++ [va]).map V.int))
          refine ⟨_, rfl, _, rfl, .inl ⟨rfl, _, SqL.of hP1⟩, pl, _, _, rfl, rfl, hP1, pop_at _ va, ?_⟩
          rw [pop_drop]
          have hP2 := @upd_same (upd H pl (.lst ((q ++ [va]).map V.int))) pl (.lst (q.map V.int))
          have K2 : Kp [pl, kp] H (upd (upd H pl (.lst ((q ++ [va]).map V.int))) pl (.lst (q.map V.int))) := (Kp.upd (by simp)).trans (Kp.upd (by simp))
          have hK2 : KeepsAt (upd (upd H pl (.lst ((q ++ [va]).map V.int))) pl (.lst (q.map V.int))) kp s.keeps B := hK.at ((upd_ne npk.symm).trans (upd_ne npk.symm))
          generalize upd (upd H pl (.lst ((q ++ [va]).map V.int))) pl (.lst (q.map V.int)) = H2 at hP2 K2 hK2 ⊢
          refine ⟨_, rfl, o, va, vb, rfl, hbp va (by simp), hbp vb (by simp), ?_⟩
          cases er : reck o va vb with
          | val v =>
            rw [er] at hstep
            cases hstep
            refine ⟨_, rfl, _, _, _, _, _, rfl, .ty "str", .base (.int _), kit_ty (by decide +kernel), _, rfl, iF rfl ?_⟩
            have hl : (q.map V.int).length < sizeLine := by
              rw [List.length_map]
              rw [ep] at hpl
              simp only [List.length_append, List.length_singleton] at hpl
              exact szl (by omega)
            refine ⟨_, rfl, .inl ⟨rfl, _, SqL.of hP2⟩, _, rfl, pl, _, _, rfl, rfl, hP2, hl, Nat.zero_le _, fun t ht => ?_⟩
            have hK3 := hK2.at (upd_ne (o := .lst (q.map V.int ++ [.int v])) npk.symm)
            obtain ⟨kk3, hkk3⟩ := hK3.some
            refine k t _ (K2.trans ((Kp.upd (by simp)).trans (Kp.same (same_new ht)))) ⟨.inl ⟨rfl, rfl, upd_same⟩, ?_, (hK3.at (upd_ne (ne_of_none hkk3 ht))).mono (by omega)⟩
            rw [same_new ht _ _ upd_same, List.map_append]
            rfl
          | nought =>
            rw [er] at hstep
            cases hstep
            refine ⟨_, rfl, _, _, _, _, _, rfl, .ty "str", .base (.str _), kit_ty (by decide +kernel), _, rfl, iT rfl ⟨_, rfl, by show 1 ≤ sizeLine; decide, fun t ht => ?_⟩⟩
            exact k t _ (K2.trans (Kp.same (same_new ht))) ⟨true, .inr ⟨rfl, _, _, upd_same, by simp, rfl, rfl⟩, .inl rfl⟩
          | great =>
            rw [er] at hstep
            cases hstep
            refine ⟨_, rfl, _, _, _, _, _, rfl, .ty "str", .base (.str _), kit_ty (by decide +kernel), _, rfl, iT rfl ⟨_, rfl, by show 1 ≤ sizeLine; decide, fun t ht => ?_⟩⟩
            exact k t _ (K2.trans (Kp.same (same_new ht))) ⟨true, .inr ⟨rfl, _, _, upd_same, by simp, rfl, rfl⟩, .inl rfl⟩
    | _ => exact hwork.elim
end
end K48
set_option maxHeartbeats 8000000
set_option linter.all false
/-! _law_parts_of -/
namespace K48
open PySem L2
section
variable {P : Program} {w : World} {K : PySem.W.Frag} {mg : Str → Option Value} {base : Heap} {aO aL : Addr}
def spPartsOf (K : PySem.W.Frag) : Sp := fun vs H Q _ => ∃ (r md : Addr) (M : Md), vs = [.ref r, .ref md] ∧ RowAt K H r ∧ MadeAt H md M ∧ M.kinds.length ≤ 3 ∧
  ∀ (pl : Addr) (ps : List Int) (H' : Hp), ps.length = M.kinds.length → (∀ p ∈ ps, Bnd p) → RowAt K H' r → Kept r H H' → H' pl = some (.lst (ps.map V.int)) → pl ≠ r → Q (.ref pl) H'
theorem scPartsOf : FnScope ["_law_row", "_law_made_here", "_law_found", "_law_kind", "_law_far"] ["_law_row", "_law_made_here"] (defScope (topS 28)) := ⟨rfl, rfl, rfl, by decide +kernel, rfl, by decide +kernel, by decide +kernel⟩
theorem fn_parts_of {f : Addr} {fd : FuncData} (F : Fun K "_law_parts_of" "_law_parts_of" (topS 28) f fd) (T : Blt K mg aO aL)
    (D_taken : Dfn P w K mg base "_law_taken" 1 ["_law_row", "_law_many"] (spTaken K)) :
    FnOk P w K mg base CX0 2 f fd ["_law_row", "_law_made_here"] (spPartsOf K) := by
  have sc := scPartsOf
  refine F.ok sc (fun vs H Q E h => ?_) (fun cdv A outer s0 H vs Q E hr h => ?_)
  · obtain ⟨r, md, M, rfl, _⟩ := h
    rfl
  · obtain ⟨r, md, M, rfl, row, ⟨kt, rt, nt, vs, ns, hM⟩, hk3, k⟩ := h
    have hu := hu_of hr
    refine ⟨_,
(pss_cons (ps_set (i := 2) sc.nd rfl (Or.inl rfl) (pe_lst pa_nil))
(pss_cons (ps_for PassesOwn.never rfl (pi_tup (pe_ix ix_tup (pv 1) pe_int (fun _ _ => rfl))) (pg_name (i := 3) sc.nd rfl (Or.inl rfl))
(pss_cons (ps_set (i := 4) sc.nd rfl (Or.inl rfl) (pe_ix ix_list (pe_lst (pa_cons (pe_callD D_taken (hr.mono (by omega)) (by rfl) (pa_cons (pv 0) (pa_cons pe_int pa_nil))) (pa_cons (pe_op op_sub pe_int (pe_callD D_taken (hr.mono (by omega)) (by rfl) (pa_cons (pv 0) (pa_cons pe_int pa_nil)))) (pa_cons (pe_callD D_taken (hr.mono (by omega)) (by rfl) (pa_cons (pv 0) (pa_cons (pe_op op_pow pe_int pe_int) pa_nil))) pa_nil)))) (pe_callD D_taken (hr.mono (by omega)) (by rfl) (pa_cons (pv 0) (pa_cons pe_int pa_nil))) (fun _ _ => rfl)))
(pss_one (ps_expr (pe_bm PySem.F.plainAttrs_list PySem.F.slot_list_append PySem.F.type_list_append mt_append (pv 2) (pa_cons (pe_ifExp (pt_cmpR op_eq (pv 3) pe_str (nomark _)) (pe_callD D_taken (hr.mono (by omega)) (by rfl) (pa_cons (pv 0) (pa_cons pe_int pa_nil))) (pv 4)) pa_nil))))))
(pss_one (ps_ret (pv 2)))))
    , ?_⟩
    refine ⟨Nat.zero_le _, fun fl hfl => ?_⟩
    have rl : r ≠ fl := by
      obtain ⟨sa, ns, p, sd, bg, h1, _⟩ := row
      exact ne_of_none h1 hfl
    have E1 := same_new (o := .lst []) hfl
    refine ⟨_, rfl, _, _, _, _, rfl, rfl, SqT.of (E1 _ _ hM.top), rfl, kt, rfl, ⟨_, SqT.of (E1 _ _ hM.kinds)⟩, ?_⟩
    refine for_tup (K := K) (a := kt) (xs := M.kinds.map V.str) (fun i σ' H' => ∃ (ps : List Int) (x y : Option V), σ' = [some (.ref r), some (.ref md), some (.ref fl), x, y] ∧ RowAt K H' r ∧ Kept r H H' ∧ H' fl = some (.lst (ps.map V.int)) ∧ ps.length = i ∧ ∀ p ∈ ps, Bnd p) ?_ ?_ ?_ ?_
    · exact ⟨[], none, none, rfl, row.same E1, fun b o _ e => E1 _ _ e, upd_same, rfl, fun p hp => absurd hp (by simp)⟩
    · rintro i σ' H' _ ⟨ps, x, y, rfl, row', kp, _⟩
      have nkr : kt ≠ r := by
        obtain ⟨sa, ns, p, sd, bg, h1, _⟩ := row
        exact ne_of hM.kinds h1 (by intro z; cases z)
      exact SqT.of (kp _ _ nkr hM.kinds)
    · rintro i z σ' H2 hz ⟨ps, x, y, rfl, row2, K2, hf2, hl2, hb2⟩
      have hi : i < M.kinds.length := by
        have := (List.getElem?_eq_some_iff.mp hz).1
        rw [List.length_map] at this
        exact this
      rw [List.getElem?_map, List.getElem?_eq_getElem hi] at hz
      obtain rfl : V.str M.kinds[i] = z := Option.some.inj hz
      refine ⟨_, rfl, r, 4, rfl, row2, by decide, by decide, fun a1 H3 x1 x2 o3 row3 => ⟨_, rfl, r, 9, rfl, row3, by decide, by decide, fun a2 H4 y1 y2 o4 row4 => ⟨_, _, rfl, rfl, _, rfl, _, _, rfl, rfl, ⟨by decide, by decide, by decide⟩, r, _, rfl, row4, by decide, by decide, fun a3 H5 w1 w2 o5 row5 => ⟨by show 3 ≤ sizeLine; decide, fun q hq => ?_⟩⟩⟩⟩
      have pw : (10 : Int) ^ (6 : Int).toNat = 1000000 := by decide
      rw [pw] at w2
      have E6 := same_new (o := .lst [V.int a1, V.int (0 - a2), V.int a3]) hq
      have rq : r ≠ q := by
        obtain ⟨sa, ns, p, sd, bg, h1, _⟩ := row5
        exact ne_of_none h1 hq
      have row6 := row5.same E6
      refine ⟨_, rfl, r, 3, rfl, row6, by decide, by decide, fun a4 H7 v1 v2 o7 row7 => ?_⟩
      have e7 : H7 q = _ := (o7 q rq.symm).trans upd_same
      obtain ⟨n0, hn0, ea⟩ : ∃ n0 : Int, Bnd n0 ∧ atI [V.int a1, V.int (0 - a2), V.int a3] a4 = some (.int n0) := by
        obtain ⟨v, hv, ev⟩ := at3 (x := V.int a1) (y := V.int (0 - a2)) (z := V.int a3) v1 v2
        rcases hv with rfl | rfl | rfl
        · exact ⟨a1, ⟨by omega, by omega⟩, ev⟩
        · exact ⟨0 - a2, ⟨by omega, by omega⟩, ev⟩
        · exact ⟨a3, ⟨by omega, by omega⟩, ev⟩
      have K7 : Kept r H2 H7 := fun b o n e => by
        rw [o7 b n]
        refine E6 _ _ ?_
        rw [o5 b n, o4 b n, o3 b n]
        exact e
      refine ⟨_, _, _, _, rfl, rfl, SqL.of e7, ea, ?_⟩
      have hf7 := K7 _ _ rl.symm hf2
      refine ⟨_, rfl, .inl ⟨rfl, _, SqL.of hf7⟩, _, rfl, rfl, _, rfl, ?_⟩
      have hlen : ∀ c : Int, (ps ++ [c]).length = i + 1 := fun c => by rw [List.length_append, hl2]; rfl
      refine iB (fun _ => ?_) (fun _ => ?_)
      · refine ⟨_, rfl, r, 2, rfl, row7, by decide, by decide, fun a5 H8 t1 t2 o8 row8 => ?_⟩
        have hf8 : H8 fl = _ := (o8 fl rl.symm).trans hf7
        refine ⟨fl, _, _, rfl, rfl, hf8, by rw [List.length_map, hl2]; exact szl (by omega), ps ++ [a5], _, _, rfl, row8.upd rl hf8 (by intro o u z; cases z), fun b o n e => ?_, by rw [upd_same, List.map_append]; rfl, hlen _, fun p hp => ?_⟩
        · by_cases nb : b = fl
          · rw [nb, hfl] at e
            cases e
          · rw [upd_ne nb, o8 b n]
            exact K7 b o n (K2 b o n e)
        · rcases List.mem_append.mp hp with z | z
          · exact hb2 p z
          · rw [List.mem_singleton.mp z]
            exact ⟨by omega, by omega⟩
      · refine ⟨_, rfl, fl, _, _, rfl, rfl, hf7, by rw [List.length_map, hl2]; exact szl (by omega), ps ++ [n0], _, _, rfl, row7.upd rl hf7 (by intro o u z; cases z), fun b o n e => ?_, by rw [upd_same, List.map_append]; rfl, hlen _, fun p hp => ?_⟩
        · by_cases nb : b = fl
          · rw [nb, hfl] at e
            cases e
          · rw [upd_ne nb]
            exact K7 b o n (K2 b o n e)
        · rcases List.mem_append.mp hp with z | z
          · exact hb2 p z
          · rw [List.mem_singleton.mp z]
            exact hn0
    · rintro σ' H' ⟨ps, x, y, rfl, row', kp, hf, hl, hb⟩
      rw [List.length_map] at hl
      exact ⟨_, rfl, k fl ps H' hl hb row' kp hf rl.symm⟩
end
end K48
set_option maxHeartbeats 8000000
set_option linter.all false
/-! events in the heap; what both runs begin with -/
namespace K48
open PySem L2
/-- an event as it lies -/
def EvB (H : Hp) (v : V) (e : Ev) : Prop := ∃ a wd k x rest, v = .ref a ∧ H a = some (.tup (.str wd :: k :: x :: rest)) ∧
  match e with
  | some f => wd = "begin" ∧ ∃ d B, x = .ref d ∧ CellsAt H d f B
  | none => wd ≠ "begin"
/-- .. that no later step of the run turns, and that is no fault -/
def EvW (W : List Addr) (H : Hp) (v : V) (e : Ev) : Prop := ∃ a wd k x rest, v = .ref a ∧ a ∉ W ∧ H a = some (.tup (.str wd :: k :: x :: rest)) ∧
  ((flatV x = true ∧ inS x faultsW = false) ∨ ∃ d kvs, d ∉ W ∧ x = .ref d ∧ H d = some (.dK kvs)) ∧
  match e with
  | some f => wd = "begin" ∧ ∃ d B, x = .ref d ∧ CellsAt H d f B
  | none => wd ≠ "begin"
theorem EvW.b {W : List Addr} {H : Hp} {v : V} {e : Ev} (h : EvW W H v e) : EvB H v e := by
  obtain ⟨a, wd, k, x, rest, e1, _, e2, _, e3⟩ := h
  exact ⟨a, wd, k, x, rest, e1, e2, e3⟩
theorem EvW.mono {W : List Addr} {H H' : Hp} {v : V} {e : Ev} (h : EvW W H v e) (s : Kp W H H') : EvW W H' v e := by
  obtain ⟨a, wd, k, x, rest, e1, na, e2, hx, e3⟩ := h
  refine ⟨a, wd, k, x, rest, e1, na, s _ _ na e2, ?_, ?_⟩
  · rcases hx with hx | ⟨d, kvs, nd, ex, hd⟩
    · exact .inl hx
    · exact .inr ⟨d, kvs, nd, ex, s _ _ nd hd⟩
  · cases e with
    | none => exact e3
    | some f =>
      obtain ⟨ew, d, B, ex, kvs, hd, hb⟩ := e3
      refine ⟨ew, d, B, ex, kvs, ?_, hb⟩
      rcases hx with hx | ⟨d', kvs', nd, ex', _⟩
      · rw [ex] at hx
        exact absurd hx.1 (by simp [flatV])
      · rw [ex] at ex'
        cases ex'
        exact s _ _ nd hd
theorem EvB.same {H H' : Hp} {v : V} {e : Ev} (h : EvB H v e) (s : Same H H') : EvB H' v e := by
  obtain ⟨a, wd, k, x, rest, e1, e2, e3⟩ := h
  refine ⟨a, wd, k, x, rest, e1, s _ _ e2, ?_⟩
  cases e with
  | none => exact e3
  | some f =>
    obtain ⟨ew, d, B, ex, kvs, hd, hb⟩ := e3
    exact ⟨ew, d, B, ex, kvs, s _ _ hd, hb⟩
theorem evs_mono {W : List Addr} {H H' : Hp} {vs : List V} {es : List Ev} (s : Kp W H H') (h : Paired (EvW W H) vs es) : Paired (EvW W H') vs es := Paired.mapP h fun _ _ x => x.mono s
/-- the parts as cells -/
def partsC (ps : List Int) (i : Nat) : Cells := fun c => if 0 ≤ c ∧ c < (i : Int) then ps[c.toNat]? else none
theorem partsC_zero (ps : List Int) : partsC ps 0 = fun _ => none := by
  funext c
  unfold partsC
  rw [if_neg (by omega)]
theorem partsC_succ {ps : List Int} {i : Nat} (h : i < ps.length) : (partsC ps i).set (i : Int) ps[i] = partsC ps (i + 1) := by
  funext c
  unfold partsC Cells.set
  by_cases e : c = (i : Int)
  · subst e
    rw [if_pos rfl, if_pos ⟨by omega, by omega⟩]
    simp [h]
  · rw [if_neg e]
    show (if 0 ≤ c ∧ c < (i : Int) then ps[c.toNat]? else none) = _
    by_cases e2 : 0 ≤ c ∧ c < (i : Int)
    · rw [if_pos e2, if_pos ⟨by omega, by omega⟩]
    · rw [if_neg e2, if_neg (by omega)]
theorem atI_int {xs : List Int} {i : Nat} (h : i < xs.length) : atI (xs.map V.int) (i : Int) = some (.int xs[i]) :=
  atI_nat (by rw [List.getElem?_map, List.getElem?_eq_getElem h]; rfl)
theorem partsC_bnd {ps : List Int} (h : ∀ p ∈ ps, Bnd p) (i : Nat) : BndC (partsC ps i) := fun c v e => by
  unfold partsC at e
  by_cases e2 : 0 ≤ c ∧ c < (i : Int)
  · rw [if_pos e2] at e
    exact h v (List.mem_of_getElem? e)
  · rw [if_neg e2] at e
    cases e
/-- dict(d) -/
theorem call_dictC {X : Cx} : CallR X (.type "dict") (fun xs H Q => ∃ a kvs, xs = [.ref a] ∧ H a = some (.dK kvs) ∧ ∀ p, H p = none → Q (.ref p) (upd H p (.dK kvs))) := by
  intro pins s σ H xs us Q I r h
  obtain ⟨a, kvs, rfl, ha, q⟩ := h
  obtain rfl := Vals.ref1 r
  exact d_copyOf I (.inl ha) fun p s' hp I' => ⟨.ref p, _, I', rfl, q p hp⟩
/-! the labels' places -/
def LabUniq (rows : List MR) : Prop := ∀ (p q : Nat) (k : Int), rows[p]? = some (.label k) → rows[q]? = some (.label k) → p = q
theorem spotOf_iff {rows : List MR} (hu : LabUniq rows) (k : Int) (p : Nat) : spotOf rows k = some p ↔ rows[p]? = some (.label k) := by
  unfold spotOf
  constructor
  · intro h
    have := List.find?_some h
    exact of_decide_eq_true this
  · intro h
    cases e : (List.range rows.length).find? fun i => decide (rows[i]? = some (.label k)) with
    | none =>
      have hp : p < rows.length := (List.getElem?_eq_some_iff.mp h).1
      have := List.find?_eq_none.mp e p (List.mem_range.mpr hp)
      exact absurd (decide_eq_true h) (by simpa using this)
    | some q =>
      have h2 := List.find?_some e
      have h3 : rows[q]? = some (.label k) := by simpa using h2
      rw [hu q p k h3 h]
def SpotsAt (H : Hp) (sp : Addr) (rows : List MR) : Prop := ∃ kvs, H sp = some (.dK kvs) ∧ ∀ (k : Int) (p : Nat), rows[p]? = some (.label k) → valV kvs (.inl k) = some (.int (p : Int))
theorem SpotsAt.get {H : Hp} {sp : Addr} {rows : List MR} (h : SpotsAt H sp rows) (hu : LabUniq rows) {k : Int} {p : Nat} (e : spotOf rows k = some p) : DGet H sp (.int k) (some (.int (p : Int))) := by
  obtain ⟨kvs, h1, h2⟩ := h
  exact .inl ⟨kvs, .inl k, .inl h1, rfl, (h2 k p ((spotOf_iff hu k p).mp e)).symm⟩
theorem valV_mergeK_out (k : Key) : ∀ (prs acc : List (Key × V)), (∀ p ∈ prs, p.1 ≠ k) → valV (mergeK acc prs) k = valV acc k
  | [], acc, _ => rfl
  | p :: prs, acc, h => by
    show valV (mergeK (putK acc p.1 p.2) prs) k = _
    rw [valV_mergeK_out k prs _ fun q hq => h q (List.mem_cons_of_mem _ hq), valV_put, if_neg (fun z => h p (List.mem_cons_self ..) z.symm)]
theorem valV_mergeK_in (k : Key) (v : V) : ∀ (prs acc : List (Key × V)), (∃ p ∈ prs, p.1 = k) → (∀ p ∈ prs, p.1 = k → p.2 = v) → valV (mergeK acc prs) k = some v
  | [], acc, h, _ => by
    obtain ⟨p, hp, _⟩ := h
    cases hp
  | p :: prs, acc, h, hv => by
    show valV (mergeK (putK acc p.1 p.2) prs) k = _
    by_cases e : ∃ q ∈ prs, q.1 = k
    · exact valV_mergeK_in k v prs _ e fun q hq => hv q (List.mem_cons_of_mem _ hq)
    · have e' : ∀ q ∈ prs, q.1 ≠ k := fun q hq z => e ⟨q, hq, z⟩
      have ep : p.1 = k := by
        obtain ⟨q, hq, z⟩ := h
        rcases List.mem_cons.mp hq with rfl | hq
        · exact z
        · exact absurd z (e' q hq)
      rw [valV_mergeK_out k prs _ e', valV_put, if_pos ep.symm, hv p (List.mem_cons_self ..) ep]
/-! bounds are kept -/
theorem lim_bnd {z v : Int} (h : lim z = .val v) : Bnd v := by
  unfold lim at h
  by_cases e : -1000000000000 ≤ z ∧ z ≤ 1000000000000
  · rw [if_pos e] at h
    cases h
    exact e
  · rw [if_neg e] at h
    cases h
theorem fmod_neg_of {a b : Int} (h : b < 0) : b < a.fmod b ∧ a.fmod b ≤ 0 := by
  have e := Int.neg_fmod_neg a b
  have f1 := Int.fmod_nonneg_of_pos (-a) (show 0 < -b by omega)
  have f2 := Int.fmod_lt_of_pos (-a) (show 0 < -b by omega)
  omega
theorem fdiv_le {a b : Int} (hb : b ≠ 0) (B : Int) (h1 : -B ≤ a) (h2 : a ≤ B) (h0 : 0 ≤ B) : -B ≤ a.fdiv b ∧ a.fdiv b ≤ B := by
  have e := Int.mul_fdiv_add_fmod a b
  rcases Int.lt_or_gt_of_ne hb with hn | hp
  · have f1 := (fmod_neg_of (a := a) hn).1
    have f2 := (fmod_neg_of (a := a) hn).2
    generalize a.fdiv b = q at *
    generalize a.fmod b = r at *
    constructor
    · rcases Int.lt_or_le q (-B) with h | h
      · exfalso
        have h3 : (-1) * (q + 1) ≤ b * (q + 1) := Int.mul_le_mul_of_nonpos_right (by omega) (by omega)
        rw [Int.mul_add b] at h3
        omega
      · exact h
    · rcases Int.lt_or_le B q with h | h
      · exfalso
        have : b * q ≤ (-1) * q := Int.mul_le_mul_of_nonneg_right (by omega) (by omega)
        omega
      · exact h
  · have f1 := Int.fmod_nonneg_of_pos a hp
    have f2 := Int.fmod_lt_of_pos a hp
    generalize a.fdiv b = q at *
    generalize a.fmod b = r at *
    constructor
    · rcases Int.lt_or_le q (-B) with h | h
      · exfalso
        have h3 : (b - 1) * (q + 1) ≤ 0 := Int.mul_nonpos_of_nonneg_of_nonpos (by omega) (by omega)
        have h4 : (b - 1) * (q + 1) = b * q + b - q - 1 := by rw [Int.sub_mul, Int.mul_add, Int.mul_one, Int.one_mul]; omega
        omega
      · exact h
    · rcases Int.lt_or_le B q with h | h
      · exfalso
        have : 1 * q ≤ b * q := Int.mul_le_mul_of_nonneg_right (by omega) (by omega)
        omega
      · exact h
theorem rest_bnd {a b : Int} (hb : b ≠ 0) (h : Bnd b) : Bnd (a - a.fdiv b * b) := by
  have e := Int.mul_fdiv_add_fmod a b
  rw [Int.mul_comm] at e
  have e2 : a - a.fdiv b * b = a.fmod b := by omega
  rw [e2]
  obtain ⟨h1, h2⟩ := h
  rcases Int.lt_or_gt_of_ne hb with hn | hp
  · have f1 := (fmod_neg_of (a := a) hn).1
    have f2 := (fmod_neg_of (a := a) hn).2
    exact ⟨by omega, by omega⟩
  · have f1 := Int.fmod_nonneg_of_pos a hp
    have f2 := Int.fmod_lt_of_pos a hp
    exact ⟨by omega, by omega⟩
theorem reck_bnd {o : Op} {a b v : Int} (ha : Bnd a) (hb : Bnd b) (h : reck o a b = .val v) : Bnd v := by
  cases o with
  | over =>
    by_cases e : b = 0
    · rw [show reck .over a b = .nought from if_pos e] at h
      cases h
    · rw [show reck .over a b = .val (a.fdiv b) from if_neg e] at h
      cases h
      exact fdiv_le e 1000000000000 ha.1 ha.2 (by decide)
  | rest =>
    by_cases e : b = 0
    · rw [show reck .rest a b = .nought from if_pos e] at h
      cases h
    · rw [show reck .rest a b = .val (a - a.fdiv b * b) from if_neg e] at h
      cases h
      exact rest_bnd e hb
  | less =>
    cases h
    constructor <;> split <;> omega
  | same =>
    cases h
    constructor <;> split <;> omega
  | add => exact lim_bnd h
  | take => exact lim_bnd h
  | times => exact lim_bnd h
theorem came_bnd (f n : Str) (hf : f.length ≤ 3) (hn : n.length ≤ 3) : ∀ ws : List Int, ws.length ≤ 1000000 → Bnd (came f n ws) := by
  intro ws hl
  have hfn : (f ++ n).length = f.length + n.length := by
    show (f.cps ++ n.cps).size = _
    rw [Array.size_append]
    rfl
  have key : ∀ (ws : List Int) (c : Int), 0 ≤ c ∧ c ≤ 2000000 → 0 ≤ ws.foldl (fun x w => (x * 31 + w) % 1009) c ∧ ws.foldl (fun x w => (x * 31 + w) % 1009) c ≤ 2000000 := by
    intro ws
    induction ws with
    | nil => exact fun c h => h
    | cons w ws ih =>
      intro c _
      rw [List.foldl_cons]
      exact ih _ (by omega)
  have := key ws ((((f ++ n).length : Nat) : Int) * 7 + ((ws.length : Nat) : Int)) (by omega)
  unfold came
  exact ⟨by omega, by omega⟩
theorem kept_bnd {g : Keeps} (h : BndK g) (f n : Str) (hf : f.length ≤ 3) (hn : n.length ≤ 3) : Bnd (kept g f n) := by
  have hfn : (f ++ n).length = f.length + n.length := by
    show (f.cps ++ n.cps).size = _
    rw [Array.size_append]
    rfl
  unfold kept
  cases e : g f n with
  | none =>
    show Bnd ((((f ++ n).length : Nat) : Int) * 11)
    exact ⟨by omega, by omega⟩
  | some v => exact h f n v e
theorem BndC.set {f : Cells} (h : BndC f) {c v : Int} (hv : Bnd v) : BndC (f.set c v) := fun d u e => by
  unfold Cells.set at e
  by_cases z : d = c
  · rw [if_pos z] at e
    cases e
    exact hv
  · rw [if_neg z] at e
    exact h d u e
theorem BndC.setO {f : Cells} (h : BndC f) {c : Option Int} {v : Int} (hv : Bnd v) : BndC (f.setO c v) := by
  cases c with
  | none => exact h
  | some c => exact h.set hv
theorem BndK.set {f : Keeps} (h : BndK f) {a b : Str} {v : Int} (hv : Bnd v) : BndK (f.set a b v) := fun x y u e => by
  unfold Keeps.set at e
  by_cases z : x = a ∧ y = b
  · rw [if_pos z] at e
    cases e
    exact hv
  · rw [if_neg z] at e
    exact h x y u e
theorem mstep_bnd {rows : List MR} {s s' : MS} {m : MR} {evs : List Ev} (hok : MrOk m) (hc : BndC s.cells) (hk : BndK s.keeps) (h : mstep rows s m = some (.next evs s')) : BndC s'.cells ∧ BndK s'.keeps := by
  cases m with
  | beg => cases h; exact ⟨hc, hk⟩
  | nothing => cases h
  | label k => cases h; exact ⟨hc, hk⟩
  | go k =>
    simp only [mstep] at h
    split at h
    · cases h; exact ⟨hc, hk⟩
    · cases h
  | unl c k =>
    simp only [mstep] at h
    split at h
    · cases h; exact ⟨hc, hk⟩
    · cases h
  | put c n => cases h; exact ⟨hc.set hok, hk⟩
  | copy c d =>
    simp only [mstep] at h
    split at h
    · rename_i v e
      cases h; exact ⟨hc.set (hc _ _ e), hk⟩
    · cases h
  | op o c d e =>
    simp only [mstep] at h
    split at h
    · rename_i a b e1 e2
      split at h
      · rename_i v e3
        cases h; exact ⟨hc.set (reck_bnd (hc _ _ e1) (hc _ _ e2) e3), hk⟩
      · cases h
    · cases h
  | say k c =>
    simp only [mstep] at h
    split at h
    · cases h; exact ⟨hc, hk⟩
    · cases h
  | lay k c =>
    simp only [mstep] at h
    split at h
    · rename_i v e
      cases h; exact ⟨hc, hk.set (hc _ _ e)⟩
    · cases h
  | give c =>
    cases c with
    | none => cases h
    | some c =>
      simp only [mstep] at h
      split at h
      · cases h
      · cases h
  | fetch c f k => cases h; exact ⟨hc.set (kept_bnd hk f k hok.1 hok.2), hk⟩
  | call co f n as =>
    simp only [mstep] at h
    split at h
    · rename_i ws e
      cases h
      have h1 : as.length = ws.length := (allOf_get e).1
      have hok' : f.length ≤ 3 ∧ n.length ≤ 3 ∧ as.length ≤ 3 := hok
      exact ⟨hc.setO (came_bnd f n hok'.1 hok'.2.1 ws (by omega)), hk⟩
    · cases h
end K48
set_option maxHeartbeats 8000000
set_option linter.all false
/-! _law_middle -/
namespace K48
open PySem L2
theorem paired_at {α β : Type} {F : α → β → Prop} : ∀ {xs : List α} {ys : List β}, Paired F xs ys → ∀ {i : Nat} {y : β}, ys[i]? = some y → ∃ x, xs[i]? = some x ∧ F x y
  | _, _, .nil, _, _, e => by simp at e
  | _, _, .cons h _, 0, _, e => by
    simp at e
    subst e
    exact ⟨_, rfl, h⟩
  | _, _, .cons _ t, i + 1, _, e => by
    obtain ⟨x, h1, h2⟩ := paired_at t (i := i) (by simpa using e)
    exact ⟨x, by simpa using h1, h2⟩
theorem beg_iff (m : MR) : decide (V.str m.word = V.str "begin") = decide (m = .beg) := by
  cases m with
  | op o _ _ _ => cases o <;> rfl
  | _ => rfl
theorem Kp.tups {W : List Addr} {H H' : Hp} (s : Kp W H H') (n : ∀ x ∈ W, ∀ xs, H x ≠ some (.tup xs)) : TupStay H H' := fun b xs e => s b _ (fun z => n b z xs e) e
theorem next_no {rows : List MR} {s s' : MS} {m : MR} {evs : List Ev} (h : mstep rows s m = some (.next evs s')) : inS (.str m.word) ["give", "nothing"] = false := by
  cases m with
  | nothing => cases h
  | give c =>
    cases c with
    | none => cases h
    | some c =>
      simp only [mstep] at h
      split at h <;> cases h
  | op o _ _ _ => cases o <;> rfl
  | _ => rfl
/-- what the end of a run leaves as its last event -/
def LastV (H : Hp) (v : V) (fin : Bool) : Prop := ∃ a wd k x rest, v = .ref a ∧ H a = some (.tup (.str wd :: k :: x :: rest)) ∧ wd ≠ "begin" ∧ OkIn H x ∧ inS x faultsW = fin
theorem LastV.b {H : Hp} {v : V} {fin : Bool} (h : LastV H v fin) : EvB H v none := by
  obtain ⟨a, wd, k, x, rest, e1, e2, e3, _⟩ := h
  exact ⟨a, wd, k, x, rest, e1, e2, e3⟩
theorem LastV.same {H H' : Hp} {v : V} {fin : Bool} (h : LastV H v fin) (s : Same H H') : LastV H' v fin := by
  obtain ⟨a, wd, k, x, rest, e1, e2, e3, ok, e4⟩ := h
  refine ⟨a, wd, k, x, rest, e1, s _ _ e2, e3, ?_, e4⟩
  rcases ok with ok | ⟨d, kvs, ex, hd⟩
  · exact .inl ok
  · exact .inr ⟨d, kvs, ex, s _ _ hd⟩
theorem EvW.last {W : List Addr} {H : Hp} {v : V} {e : Ev} (h : EvW W H v e) : ∃ a wd k x rest, v = .ref a ∧ H a = some (.tup (.str wd :: k :: x :: rest)) ∧ OkIn H x ∧ inS x faultsW = false := by
  obtain ⟨a, wd, k, x, rest, e1, _, e2, hx, _⟩ := h
  refine ⟨a, wd, k, x, rest, e1, e2, ?_⟩
  rcases hx with ⟨h1, h2⟩ | ⟨d, kvs, _, rfl, hd⟩
  · exact ⟨.inl h1, h2⟩
  · exact ⟨.inr ⟨d, kvs, rfl, hd⟩, rfl⟩
/-- the loop's state -/
def MidW (md pl sp rt cl kp fl : Addr) (M : Md) (evs : List Ev) (H4 : Hp) : Nat → St → Hp → Prop := fun n' σ' H' => ∃ (s : MS) (mst : Int) (x3 x10 x11 x12 : Option V) (us : List V) (acc rest : List Ev) (B : Nat),
  σ' = [some (.ref md), some (.ref pl), some (.int mst), x3, some (.ref sp), some (.ref rt), some (.ref cl), some (.ref kp), some (.ref fl), some (.int (s.pc : Int)), x10, x11, x12] ∧
  Kp [cl, kp, fl] H4 H' ∧ CellsAt H' cl s.cells B ∧ KeepsAt H' kp s.keeps B ∧ H' fl = some (.lst us) ∧ Paired (EvW [cl, kp, fl] H') us acc ∧ mrun M.rows n' mst s = some rest ∧ acc ++ rest = evs ∧ BndC s.cells ∧ BndK s.keeps ∧ us.length + n' ≤ 800000 ∧ B + n' ≤ 800003
/-- a row's work done -/
def MidN (md pl sp rt cl kp fl a : Addr) (M : Md) (H5 : Hp) (mst : Int) (x3 : Option V) (us : List V) (s : MS) (m : MR) (B : Nat) : St → Hp → Prop := fun σ' H' => ∃ (out : Out) (pc : Int) (x12 : Option V) (ys : List V),
  mstep M.rows s m = some out ∧
  σ' = [some (.ref md), some (.ref pl), some (.int mst), x3, some (.ref sp), some (.ref rt), some (.ref cl), some (.ref kp), some (.ref fl), some (.int pc), some (.ref a), some (.str m.word), x12] ∧
  Kp [cl, kp, fl] H5 H' ∧ H' fl = some (.lst (us ++ ys)) ∧ ys.length ≤ 1 ∧
  match out with
  | .next evs s' => pc = (s'.pc : Int) ∧ CellsAt H' cl s'.cells (B + 1) ∧ KeepsAt H' kp s'.keeps (B + 1) ∧ Paired (EvW [cl, kp, fl] H') ys evs
  | .stop evs => ∃ v fin, evs = [none] ∧ ys = [v] ∧ LastV H' v fin ∧ (fin = true ∨ inS (.str m.word) ["give", "nothing"] = true)
theorem mstep_stop {rows : List MR} {s : MS} {m : MR} {evs : List Ev} (h : mstep rows s m = some (.stop evs)) : evs = [none] := by
  cases m with
  | nothing => cases h; rfl
  | give c =>
    cases c with
    | none => cases h; rfl
    | some c =>
      simp only [mstep] at h
      split at h <;> cases h
      rfl
  | op o c d e =>
    simp only [mstep] at h
    split at h
    · split at h
      · cases h
      · cases h; rfl
    · cases h
  | go k =>
    simp only [mstep] at h
    split at h <;> cases h
  | unl c k =>
    simp only [mstep] at h
    split at h <;> cases h
  | copy c d =>
    simp only [mstep] at h
    split at h <;> cases h
  | say k c =>
    simp only [mstep] at h
    split at h <;> cases h
  | lay k c =>
    simp only [mstep] at h
    split at h <;> cases h
  | call co f n as =>
    simp only [mstep] at h
    split at h <;> cases h
  | beg => cases h
  | label k => cases h
  | put c n => cases h
  | fetch c f k => cases h
theorem mstep_pc {rows : List MR} {s s' : MS} {m : MR} {evs : List Ev} (hd : m.isDone) (h : mstep rows s m = some (.next evs s')) : s'.pc = s.pc + 1 := by
  cases m with
  | say k c =>
    simp only [mstep] at h
    split at h <;> cases h
    rfl
  | lay k c =>
    simp only [mstep] at h
    split at h <;> cases h
    rfl
  | give c =>
    cases c with
    | none => cases h
    | some c =>
      simp only [mstep] at h
      split at h <;> cases h
  | fetch c f k => cases h; rfl
  | call co f n as =>
    simp only [mstep] at h
    split at h <;> cases h
    rfl
  | op o c d e =>
    simp only [mstep] at h
    split at h
    · split at h <;> cases h
      rfl
    · cases h
  | _ => exact hd.elim
theorem Paired.app {α β : Type} {F : α → β → Prop} : ∀ {xs : List α} {ys : List β} {xs2 : List α} {ys2 : List β}, Paired F xs ys → Paired F xs2 ys2 → Paired F (xs ++ xs2) (ys ++ ys2)
  | _, _, _, _, .nil, h => h
  | _, _, _, _, .cons h t, g => .cons h (Paired.app t g)
theorem CellsAt.kp {H H' : Hp} {W : List Addr} {d : Addr} {f : Cells} {B : Nat} (h : CellsAt H d f B) (s : Kp W H H') (n : d ∉ W) : CellsAt H' d f B := by
  obtain ⟨kvs, h1, h2⟩ := h
  exact ⟨kvs, s _ _ n h1, h2⟩
theorem SpotsAt.kp {H H' : Hp} {W : List Addr} {sp : Addr} {rows : List MR} (h : SpotsAt H sp rows) (s : Kp W H H') (n : sp ∉ W) : SpotsAt H' sp rows := by
  obtain ⟨kvs, h1, h2⟩ := h
  exact ⟨kvs, s _ _ n h1, h2⟩
section
variable {P : Program} {w : World} {K : PySem.W.Frag} {mg : Str → Option Value} {base : Heap} {aO aL : Addr}
def spMiddle (K : PySem.W.Frag) : Sp := fun vs H Q _ => ∃ (md pl : Addr) (M : Md) (ps : List Int) (most : Int) (n : Nat) (evs : List Ev), vs = [.ref md, .ref pl, .int most] ∧ MadeAt H md M ∧
  H pl = some (.lst (ps.map V.int)) ∧ ps.length ≤ 3 ∧ (∀ p ∈ ps, Bnd p) ∧ LabUniq M.rows ∧ (∀ m ∈ M.rows, MrOk m) ∧ M.rows.length ≤ 700 ∧
  mrun M.rows n most ⟨0, partsC ps ps.length, fun _ _ => none⟩ = some evs ∧ n ≤ 800000 ∧
  ∀ (fl : Addr) (vs' : List V) (H' : Hp), Same H H' → H' fl = some (.lst vs') → Paired (EvB H') vs' evs → Q (.ref fl) H'
theorem scMiddle : FnScope ["_law_made_here", "_law_parts", "_law_most", "_law_k", "_law_spots", "_law_rows", "_law_cells", "_law_keeps", "_law_found", "_law_at", "_law_row", "_law_word", "_law_told"] ["_law_made_here", "_law_parts", "_law_most"] (defScope (topS 23)) := ⟨rfl, rfl, rfl, by decide +kernel, rfl, by decide +kernel, by decide +kernel⟩
theorem fn_middle {f : Addr} {fd : FuncData} (F : Fun K "_law_middle" "_law_middle" (topS 23) f fd) (T : Blt K mg aO aL)
    (D_done : Dfn P w K mg base "_law_done" 2 ["_law_row", "_law_cells", "_law_keeps"] spDone) :
    FnOk P w K mg base CX0 3 f fd ["_law_made_here", "_law_parts", "_law_most"] (spMiddle K) := by
  have sc := scMiddle
  refine F.ok sc (fun vs H Q E h => ?_) (fun cdv A outer s0 H vs Q E hr h => ?_)
  · obtain ⟨md, pl, M, ps, most, n, evs, rfl, _⟩ := h
    rfl
  · obtain ⟨md, pl, M, ps, most, n, evs, rfl, ⟨kt, rt, nt, vs0, ns, hM⟩, hpl, hps, hbps, huniq, hmok, hlen, hrun, hn, k⟩ := h
    have hu := hu_of hr
    refine ⟨_,
(pss_cons (ps_asg (pe_tup (pa_cons (pe_ix ix_tup (pv 0) pe_int (fun _ _ => rfl)) (pa_cons pe_dnewK (pa_cons pe_dnewT (pa_cons (pe_lst pa_nil) (pa_cons pe_int pa_nil)))))) (pg_tup rfl (pgs_cons (pg_name (i := 5) sc.nd rfl (Or.inr rfl)) (pgs_cons (pg_name (i := 6) sc.nd rfl (Or.inl rfl)) (pgs_cons (pg_name (i := 7) sc.nd rfl (Or.inl rfl)) (pgs_cons (pg_name (i := 8) sc.nd rfl (Or.inl rfl)) (pgs_cons (pg_name (i := 9) sc.nd rfl (Or.inl rfl)) pgs_nil)))))))
(pss_cons (ps_for PassesOwn.never rfl (pi_range1 (by rfl) T.range (pa_cons (pe_callB (call_len) (by rfl) T.len PySem.boot_len (pa_cons (pv 1) pa_nil)) pa_nil)) (pg_name (i := 3) sc.nd rfl (Or.inl rfl))
(pss_one (ps_dput hu (pv 6) (pv 3) (pe_ix ix_list (pv 1) (pv 3) (fun _ _ => rfl)) rfl)))
(pss_cons (ps_set (i := 4) sc.nd rfl (Or.inl rfl) (pe_callTy (call_dictP rfl) (by rfl) T.dict (by decide +kernel) (pa_cons (pe_lc (own := [("_law_k", 3)]) rfl sc.nd (pi_range1 (by rfl) T.range (pa_cons (pe_callB (call_len) (by rfl) T.len PySem.boot_len (pa_cons (pv 5) pa_nil)) pa_nil)) (blkOk_by (own := [("_law_k", 3)]) (N := ["_law_made_here", "_law_parts", "_law_most", "_law_k", "_law_spots", "_law_rows", "_law_cells", "_law_keeps", "_law_found", "_law_at", "_law_row", "_law_word", "_law_told"]) (sc := defScope (topS 23)) (by decide +kernel)) (fun _ _ _ _ _ => (pg_name (i := 3) sc.nd rfl (Or.inl rfl))) (fun _ _ _ _ _ => (pts_one (pt_cmpR op_eq (pe_ix (r := rIxT K) ix_tup (pe_ix (r := rIxT K) ix_tup (pv 5) (pv 3) (fun _ _ => rfl)) pe_int (fun _ _ => rfl)) pe_str (nomark _)))) (fun _ _ _ _ _ => (pe_tup (pa_cons (pe_ix (r := rIxT K) ix_tup (pe_ix (r := rIxT K) ix_tup (pv 5) (pv 3) (fun _ _ => rfl)) pe_int (fun _ _ => rfl)) (pa_cons (pv 3) pa_nil))))) pa_nil)))
(pss_cons (ps_while PassesOwn.never (pt_cmpR op_ge (pv 2) pe_int (nomark _))
(pss_cons (ps_par rfl sc.nd (i := 10) (j := 9) rfl rfl (by decide) rfl rfl (pa_cons (pe_ix ix_tup (pv 5) (pv 9) (fun _ _ => rfl)) (pa_cons (pe_op op_add (pv 9) pe_int) pa_nil)) (by rfl))
(pss_cons (ps_par rfl sc.nd (i := 11) (j := 2) rfl rfl (by decide) rfl rfl (pa_cons (pe_ix ix_tup (pv 10) pe_int (fun _ _ => rfl)) (pa_cons (pe_op op_sub (pv 2) (pe_callTy (call_int1) (by rfl) T.int (by decide +kernel) (pa_cons (pe_cmpR op_eq (pe_ix ix_tup (pv 10) pe_int (fun _ _ => rfl)) pe_str (nomark _)) pa_nil))) pa_nil)) (by rfl))
(pss_cons (ps_if (pt_inT hu (pv 11) (pas_cons (pas_cons pas_nil)) (by decide))
(pss_one (ps_expr (pe_bm PySem.F.plainAttrs_list PySem.F.slot_list_append PySem.F.type_list_append mt_append (pv 8) (pa_cons (pe_tup (pa_cons (pv 11) (pa_cons (pe_op op_sub (pv 9) pe_int) (pa_cons (pe_callTy (call_dictC) (by rfl) T.dict (by decide +kernel) (pa_cons (pv 6) pa_nil)) pa_nil)))) pa_nil))))
(pss_one (ps_if (pt_inT hu (pv 11) (pas_cons (pas_cons pas_nil)) (by decide))
(pss_one (ps_set (i := 9) sc.nd rfl (Or.inl rfl) (pe_ifExp (pt_cmpR op_eq (pv 11) pe_str (nomark _)) (pe_dget hu (pv 4) (pe_ix ix_tup (pv 10) pe_int (fun _ _ => rfl)) (fun _ _ => rfl)) (pe_ifExp (pt_cmpR op_eq (pe_dget hu (pv 6) (pe_ix ix_tup (pv 10) pe_int (fun _ _ => rfl)) (fun _ _ => rfl)) pe_int (nomark _)) (pe_dget hu (pv 4) (pe_ix ix_tup (pv 10) pe_int (fun _ _ => rfl)) (fun _ _ => rfl)) (pv 9)))))
(pss_one (ps_if (pt_inT hu (pv 11) (pas_cons (pas_cons pas_nil)) (by decide))
(pss_one (ps_dput hu (pv 6) (pe_ix ix_tup (pv 10) pe_int (fun _ _ => rfl)) (pe_ifExp (pt_cmpR op_eq (pv 11) pe_str (nomark _)) (pe_ix ix_tup (pv 10) pe_int (fun _ _ => rfl)) (pe_dget hu (pv 6) (pe_ix ix_tup (pv 10) pe_int (fun _ _ => rfl)) (fun _ _ => rfl))) rfl))
(pss_one (ps_if (pt_cmpR op_ne (pv 11) pe_str (nomark _))
(pss_cons (ps_set (i := 12) sc.nd rfl (Or.inl rfl) (pe_callD D_done (hr.mono (by omega)) (by rfl) (pa_cons (pv 10) (pa_cons (pv 6) (pa_cons (pv 7) pa_nil)))))
(pss_one (ps_if (pt_cmpR (op_neNilT hr.units0) (pv 12) (pe_tup pa_nil) (nomark _))
(pss_one (ps_expr (pe_bm PySem.F.plainAttrs_list PySem.F.slot_list_append PySem.F.type_list_append mt_append (pv 8) (pa_cons (pe_op op_catA (pe_tup (pa_cons (pv 11) (pa_cons (pe_op op_sub (pv 9) pe_int) pa_nil))) (pv 12)) pa_nil))))
pss_nil)))
pss_nil)))))))
(pss_one (ps_if (PW.pt (pw_or (pt_inT hu (pv 11) (pas_cons (pas_cons pas_nil)) (by decide)) (pw_or1 (PW.pt (pw_and (pt_cmpR (op_neNil hr.units0) (pv 8) (pe_lst pa_nil) (nomark _)) (pw_and1 (pt_inT hu (pe_ix ix_tup (pe_ix ix_list (pv 8) (pe_un un_neg pe_int) (fun _ _ => rfl)) pe_int (fun _ _ => rfl)) (pas_cons (pas_cons pas_nil)) (by decide))))))))
(pss_one (ps_ret (pv 8)))
pss_nil))))))
(pss_one (ps_ret (pv 8)))))))
    , ?_⟩
    refine ⟨_, rfl, _, _, _, _, rfl, rfl, SqT.of hM.top, rfl, fun cl hcl => fun kp hkp => ⟨Nat.zero_le _, fun fl hfl => ⟨by show 5 ≤ sizeLine; decide, fun t5 ht5 => ?_⟩⟩⟩
    refine ⟨_, _, rfl, SqT.of upd_same, rfl, _, _, rfl, _, _, rfl, _, _, rfl, _, _, rfl, _, _, rfl, rfl, ?_⟩
    have E1 := same_new (o := .dK []) hcl
    have E2 := same_new (o := .dT []) hkp
    have E3 := same_new (o := .lst []) hfl
    have E4 := same_new (o := .tup [.ref rt, .ref cl, .ref kp, .ref fl, .int 0]) ht5
    have cl1 := (E2.trans (E3.trans E4)) _ _ (@upd_same H cl (.dK []))
    have kp1 := (E3.trans E4) _ _ (@upd_same (upd H cl (.dK [])) kp (.dT []))
    have fl1 := E4 _ _ (@upd_same (upd (upd H cl (.dK [])) kp (.dT [])) fl (.lst []))
    have E := E1.trans (E2.trans (E3.trans E4))
    have hcl0 : H cl = none := hcl
    have hkp0 : H kp = none := E1.free hkp
    have hfl0 : H fl = none := (E1.trans E2).free hfl
    generalize upd (upd (upd (upd H cl (.dK [])) kp (.dT [])) fl (.lst [])) t5 (.tup [.ref rt, .ref cl, .ref kp, .ref fl, .int 0]) = H1 at E cl1 kp1 fl1 ⊢
    clear E1 E2 E3 E4 ht5 hfl hkp hcl
    have nck : cl ≠ kp := ne_of cl1 kp1 (by intro z; cases z)
    have ncf : cl ≠ fl := ne_of cl1 fl1 (by intro z; cases z)
    have nkf : kp ≠ fl := ne_of kp1 fl1 (by intro z; cases z)
    -- the parts
    refine ⟨_, rfl, _, ps.length, rfl, .inl ⟨_, SqL.of (E _ _ hpl), (List.length_map _).symm⟩, _, rfl, by omega, by omega, ?_⟩
    refine for_range (lo := 0) (n := ((ps.length : Nat) : Int).toNat) (fun i σ' H' => ∃ x3, σ' = [some (.ref md), some (.ref pl), some (.int most), x3, none, some (.ref rt), some (.ref cl), some (.ref kp), some (.ref fl), some (.int 0), none, none, none] ∧
      CellsAt H' cl (partsC ps i) i ∧ ∀ b, b ≠ cl → H' b = H1 b) ?_ ?_ ?_
    · exact ⟨none, rfl, ⟨[], cl1, Nat.le_refl _, fun c => by rw [partsC_zero]; rfl⟩, fun _ _ => rfl⟩
    · rintro i σ' H2 hi ⟨x3, rfl, hC, hoff⟩
      have hi' : i < ps.length := by omega
      have hpl2 : H2 pl = _ := (hoff pl (ne_of_none hpl hcl0)).trans (E _ _ hpl)
      obtain ⟨H3, hp, hC3, o, rfl⟩ := hC.put (i : Int) ps[i] (by omega)
      refine ⟨_, rfl, _, rfl, _, _, _, _, rfl, rfl, SqL.of hpl2, by rw [Int.zero_add]; exact atI_int hi', ?_⟩
      refine ⟨_, rfl, _, rfl, cl, _, rfl, (by rw [Int.zero_add]; exact hp), ?_⟩
      refine ⟨_, rfl, ?_, fun b nb => by rw [upd_ne nb]; exact hoff b nb⟩
      rw [← partsC_succ hi']
      exact hC3
    rintro σ' H2 ⟨x3', rfl, hC, hoff⟩
    have hpl' : ((ps.length : Nat) : Int).toNat = ps.length := by omega
    rw [hpl'] at hC
    have S2 : Same H H2 := fun b o e => by
      rw [hoff b (ne_of_none e hcl0)]
      exact E _ _ e
    have kp2 : H2 kp = _ := (hoff kp nck.symm).trans kp1
    have fl2 : H2 fl = _ := (hoff fl ncf.symm).trans fl1
    have hrt2 := S2 _ _ hM.rt
    have hvs : vs0.length = M.rows.length := hM.rows.length
    -- the labels' places
    refine ⟨_, rfl, _, vs0.length, rfl, .inr ⟨_, SqT.of hrt2, rfl⟩, _, rfl, by omega, by omega, fun D hD => ?_⟩
    refine lc_range (lo := 0) (n := ((vs0.length : Nat) : Int).toNat) (fun i H' => ∃ (ads : List Addr) (prs : List (Key × V)), H' D = some (.lst (ads.map V.ref)) ∧ Paired (fun p kv => SqT K H' p [kV kv.1, kv.2]) ads prs ∧ ads.length ≤ i ∧
      (∀ (kk : Int) (v : V), (.inl kk, v) ∈ prs ↔ ∃ j : Nat, j < i ∧ M.rows[j]? = some (.label kk) ∧ v = .int (j : Int)) ∧ (∀ p ∈ prs, ∃ kk, p.1 = .inl kk) ∧ Same H2 H') ?_ ?_ ?_
    · exact ⟨[], [], upd_same, .nil, Nat.le_refl _, fun kk v => ⟨fun h => absurd h (by simp), fun ⟨j, h, _⟩ => absurd h (by omega)⟩, fun p hp => absurd hp (by simp), same_new hD⟩
    · rintro i H3 hi ⟨ads, prs, hDa, hpr, hal, hiff, hkk, S3⟩
      have hi' : i < M.rows.length := by omega
      obtain ⟨v, hv, a, b, p, rfl, ha, hb⟩ := paired_at hM.rows (List.getElem?_eq_getElem hi')
      have ha3 := S3 _ _ (S2 _ _ ha)
      have hrt3 := S3 _ _ hrt2
      have hat : atI vs0 (0 + (i : Int)) = some (.ref a) := by rw [Int.zero_add]; exact atI_nat hv
      refine ⟨rfl, _, rfl, _, rfl, _, _, _, _, rfl, rfl, SqT.of hrt3, hat, _, _, _, _, rfl, rfl, SqT.of ha3, (at0 _ b p), rfl, _, rfl, ?_⟩
      by_cases hl : ∃ kk, M.rows[i] = .label kk
      · obtain ⟨kk, ekk⟩ := hl
        rw [ekk] at ha3 ⊢
        refine iT (by rfl) ⟨_, rfl, _, rfl, _, _, _, _, rfl, rfl, SqT.of hrt3, hat, _, _, _, _, rfl, rfl, SqT.of ha3, rfl, _, rfl, (by show 2 ≤ sizeLine; decide), fun t ht => ?_⟩
        have Et := same_new (o := .tup [.int kk, .int (0 + (i : Int))]) ht
        have nDt : t ≠ D := fun z => by rw [z, hDa] at ht; cases ht
        have ts : ∀ q xs, SqT K H3 q xs → SqT K (upd (upd H3 t (.tup [.int kk, .int (0 + (i : Int))])) D (.lst (ads.map V.ref ++ [.ref t]))) q xs := fun q xs h => by
          have h1 := Et.sqT h
          rcases h1 with (h1 | ⟨o, h1⟩) | h1
          · exact .inl (.inl (by rw [upd_ne (ne_of h1 (Et _ _ hDa) (by intro z; cases z))]; exact h1))
          · exact .inl (.inr ⟨o, by rw [upd_ne (ne_of h1 (Et _ _ hDa) (by intro z; cases z))]; exact h1⟩)
          · exact .inr h1
        refine ⟨_, Et _ _ hDa, by rw [List.length_map]; exact szl (by omega), ads ++ [t], prs ++ [(.inl kk, .int (i : Int))], by rw [upd_same, List.map_append]; rfl, ?_, by rw [List.length_append, List.length_singleton]; omega, ?_, ?_, ?_⟩
        · refine (Paired.mapP hpr fun q kv h => ts q _ h).snoc (.inl (.inl ?_))
          rw [upd_ne nDt, upd_same, Int.zero_add]
          rfl
        · intro k2 v2
          rw [List.mem_append, hiff]
          constructor
          · rintro (⟨j, h1, h2, h3⟩ | h)
            · exact ⟨j, by omega, h2, h3⟩
            · obtain ⟨h1, h2⟩ := Prod.mk.inj (List.mem_singleton.mp h)
              cases h1
              exact ⟨i, by omega, by rw [List.getElem?_eq_getElem hi', ekk], h2⟩
          · rintro ⟨j, h1, h2, h3⟩
            by_cases e : j < i
            · exact .inl ⟨j, e, h2, h3⟩
            · have ej : j = i := by omega
              subst ej
              rw [List.getElem?_eq_getElem hi', ekk] at h2
              cases h2
              rw [h3]
              exact .inr (List.mem_singleton.mpr rfl)
        · intro q hq
          rcases List.mem_append.mp hq with h | h
          · exact hkk q h
          · rw [List.mem_singleton.mp h]
            exact ⟨kk, rfl⟩
        · exact fun b o e => by
            rw [upd_ne (ne_of_none e hD)]
            exact Et _ _ (S3 _ _ e)
      · refine iF ?_ ⟨ads, prs, hDa, hpr, by omega, fun k2 v2 => ?_, hkk, S3⟩
        · cases h : M.rows[i] with
          | label kk => exact absurd ⟨kk, h⟩ hl
          | op o _ _ _ => cases o <;> rfl
          | _ => rfl
        · rw [hiff]
          constructor
          · rintro ⟨j, h1, h2, h3⟩
            exact ⟨j, by omega, h2, h3⟩
          · rintro ⟨j, h1, h2, h3⟩
            refine ⟨j, ?_, h2, h3⟩
            rcases Nat.lt_or_ge j i with h | h
            · exact h
            · have ej : j = i := by omega
              subst ej
              rw [List.getElem?_eq_getElem hi'] at h2
              exact absurd ⟨_, Option.some.inj h2⟩ hl
    rintro H3 ⟨ads, prs, hDa, hpr, hal, hiff, hkk, S3⟩
    refine ⟨D, ads, prs, rfl, SqL.of hDa, hpr, fun sp hsp => ?_⟩
    have E4 := same_new (o := .dK (mergeK [] prs)) hsp
    have sp4 := @upd_same H3 sp (.dK (mergeK [] prs))
    have hspots : SpotsAt (upd H3 sp (.dK (mergeK [] prs))) sp M.rows := by
      refine ⟨_, sp4, fun kk p hp => ?_⟩
      have hp' : p < M.rows.length := (List.getElem?_eq_some_iff.mp hp).1
      refine valV_mergeK_in _ _ prs [] ⟨(.inl kk, .int (p : Int)), (hiff kk _).mpr ⟨p, by omega, hp, rfl⟩, rfl⟩ fun q hq e => ?_
      obtain ⟨q1, q2⟩ := q
      dsimp only at e
      subst e
      obtain ⟨j, _, h2, h3⟩ := (hiff kk q2).mp hq
      rw [h3, huniq j p kk h2 hp]
    have S4 : Same H2 (upd H3 sp (.dK (mergeK [] prs))) := S3.trans E4
    have sp0 : ∀ b o, H2 b = some o → b ≠ sp := fun b o e => ne_of_none (S3 _ _ e) hsp
    generalize upd H3 sp (.dK (mergeK [] prs)) = H4 at E4 sp4 hspots S4 ⊢
    obtain ⟨ck0, hck0⟩ := hC.some
    have spcl : cl ≠ sp := sp0 _ _ hck0
    have spfl : fl ≠ sp := sp0 _ _ fl2
    have spkp : kp ≠ sp := sp0 _ _ kp2
    have nW : ∀ b o, H2 b = some o → b ≠ cl → b ≠ kp → b ≠ fl → b ∉ [cl, kp, fl] := fun b o _ h1 h2 h3 h => by simp [h1, h2, h3] at h
    have spW : sp ∉ [cl, kp, fl] := by simp [spcl.symm, spfl.symm, spkp.symm]
    have W0 : ∀ b o, H b = some o → b ∉ [cl, kp, fl] := fun b o e => by
      have h1 := ne_of_none e hcl0
      have h2 := ne_of_none e hkp0
      have h3 := ne_of_none e hfl0
      simp [h1, h2, h3]
    refine ⟨MidW md pl sp rt cl kp fl M evs H4, ⟨n, ⟨0, partsC ps ps.length, fun _ _ => none⟩, most, x3', none, none, none, [], [], evs, ps.length, rfl, Kp.refl _ _, hC.at ((S4 _ _ hck0).trans hck0.symm), ⟨[], S4 _ _ kp2, Nat.zero_le _, fun _ _ => rfl⟩, S4 _ _ fl2, .nil, hrun, rfl, partsC_bnd hbps _, fun _ _ _ e => (by cases e), by simpa using hn, by omega⟩, ?_⟩
    rintro n' σ' H5 ⟨s, mst, x3, x10, x11, x12, us, acc, rest, B, rfl, hK, hCl, hKp, hfl, hev, hr2, hacc, hbc, hbk, hus, hB⟩
    have SS : Same H H5 := fun b o e => hK b o (W0 b o e) (S4 _ _ (S2 _ _ e))
    cases n' with
    | zero => cases hr2
    | succ n' =>
    by_cases hneg : mst < 0
    · rw [show mrun M.rows (n' + 1) mst s = some [] from if_pos hneg] at hr2
      cases hr2
      rw [List.append_nil] at hacc
      subst hacc
      refine ⟨_, rfl, _, _, rfl, rfl, _, rfl, ?_⟩
      refine iF (decide_eq_false (by omega)) ?_
      exact ⟨_, rfl, k fl us H5 SS hfl (Paired.mapP hev fun _ _ h => h.b)⟩
    · have hrr : mrun M.rows (n' + 1) mst s = _ := if_neg hneg
      rw [hrr] at hr2
      clear hrr
      refine ⟨_, rfl, _, _, rfl, rfl, _, rfl, ?_⟩
      refine iT (decide_eq_true (by omega)) ⟨fun σ' H' => ∃ m', m' < n' + 1 ∧ MidW md pl sp rt cl kp fl M evs H4 m' σ' H', fun _ _ h => h, ?_⟩
      cases em : M.rows[s.pc]? with
      | none => rw [em] at hr2; cases hr2
      | some m =>
      rw [em] at hr2
      dsimp only at hr2
      obtain ⟨v, hv, a, b, p, rfl, ha, hb⟩ := paired_at hM.rows em
      have ha5 := SS _ _ ha
      have hrt5 := SS _ _ hM.rt
      have haW := W0 _ _ ha
      have hok : MrOk m := hmok m (List.mem_of_getElem? em)
      refine ⟨_, rfl, _, rfl, _, _, _, _, rfl, rfl, SqT.of hrt5, atI_nat hv, _, rfl, _, _, rfl, rfl, _, _, rfl, ?_⟩
      refine ⟨_, rfl, _, _, _, _, rfl, rfl, SqT.of ha5, (at0 m b p), _, rfl, _, rfl, _, _, _, _, rfl, rfl, SqT.of ha5, (at0 m b p), rfl, .inr ⟨_, rfl, _, _, rfl, rfl, _, _, rfl, ?_⟩⟩
      rw [beg_iff]
      have eb : (mst - if decide (m = .beg) = true then 1 else 0) = if m = .beg then mst - 1 else mst := by
        by_cases h : m = .beg
        · subst h; rfl
        · rw [if_neg h, if_neg (by simpa using h)]; omega
      dsimp only
      show tSeq _ _ _ [some (.ref md), some (.ref pl), some (.int (mst - if decide (m = .beg) = true then 1 else 0)), x3, some (.ref sp), some (.ref rt), some (.ref cl), some (.ref kp), some (.ref fl), some (.int ((s.pc : Int) + 1)), some (.ref a), some (.str m.word), x12] H5
      rw [eb]
      refine seq_cut (MidN md pl sp rt cl kp fl a M H5 (if m = .beg then mst - 1 else mst) x3 us s m B) ?_ (fun nx hn => ?_)
      · rintro _ H6 ⟨out, pc, x12', ys, hstep, rfl, K6, hfl6, hys, hout⟩
        rw [hstep] at hr2
        have hev6 := evs_mono K6 hev
        have SS6 : Same H H6 := fun b o e => K6 b o (W0 b o e) (SS _ _ e)
        cases out with
        | next evs1 s' =>
          obtain ⟨rfl, hC6, hK6, hys2⟩ := hout
          dsimp only at hr2
          have hword : inS (.str m.word) ["give", "nothing"] = false := next_no hstep
          cases er : mrun M.rows n' (if m = .beg then mst - 1 else mst) s' with
          | none => rw [er] at hr2; cases hr2
          | some rest' =>
          rw [er] at hr2
          cases hr2
          obtain ⟨bc6, bk6⟩ := mstep_bnd hok hbc hbk hstep
          have hall := Paired.app hev6 hys2
          have fin : ∀ H', Same H6 H' → ∃ m', m' < n' + 1 ∧ MidW md pl sp rt cl kp fl M evs H4 m' [some (.ref md), some (.ref pl), some (.int (if m = .beg then mst - 1 else mst)), x3, some (.ref sp), some (.ref rt), some (.ref cl), some (.ref kp), some (.ref fl), some (.int (s'.pc : Int)), some (.ref a), some (.str m.word), x12'] H' := fun H' S' => by
            refine ⟨n', by omega, s', _, _, _, _, _, us ++ ys, acc ++ evs1, rest', B + 1, rfl, hK.trans (K6.trans (Kp.same S')), ?_, ?_, S' _ _ hfl6, evs_mono (Kp.same S') hall, er, by rw [List.append_assoc]; exact hacc, bc6, bk6, by rw [List.length_append]; omega, by omega⟩
            · obtain ⟨kvs, h1, h2⟩ := hC6
              exact ⟨kvs, S' _ _ h1, h2⟩
            · obtain ⟨kvs, h1, h2⟩ := hK6
              exact ⟨kvs, S' _ _ h1, h2⟩
          refine ⟨_, rfl, .inl rfl, ?_⟩
          refine iF hword ⟨_, rfl, Nat.zero_le _, fun q hq => ?_⟩
          have Eq := same_new (o := .lst []) hq
          have nfq : fl ≠ q := ne_of_none hfl6 hq
          refine ⟨fl, q, us ++ ys, rfl, rfl, nfq, SqL.of (Eq _ _ hfl6), SqL.of upd_same, _, rfl, ?_⟩
          rcases List.eq_nil_or_concat (us ++ ys) with hnil | ⟨us', v', hv'⟩
          · rw [hnil]
            refine iF rfl ?_
            exact fin _ Eq
          · rw [List.concat_eq_append] at hv'
            rw [hv'] at hfl6 hall ⊢
            refine iT (by simp) ?_
            obtain ⟨x, _, he⟩ := paired_get hall (i := us'.length) (a := v') (by simp)
            obtain ⟨a2, wd, kq, x2, r2, rfl, ha2, ok2, no2⟩ := he.last
            have ok3 : OkIn (upd H6 q (.lst [])) x2 := by
              rcases ok2 with h | ⟨d, kvs, e1, e2⟩
              · exact .inl h
              · exact .inr ⟨d, kvs, e1, Eq _ _ e2⟩
            refine ⟨_, rfl, _, rfl, _, _, _, _, rfl, rfl, SqL.of (Eq _ _ hfl6), atI_last us' _, _, _, _, _, rfl, rfl, SqT.of (Eq _ _ ha2), (atI_nat (j := 2) rfl), ok3, ?_⟩
            rw [no2]
            exact fin _ Eq
        | stop evs1 =>
          obtain ⟨v, fin, rfl, rfl, hlast, hfin⟩ := hout
          dsimp only at hr2
          cases hr2
          have hall : Paired (EvB H6) (us ++ [v]) evs := by
            rw [← hacc]
            exact Paired.app (Paired.mapP hev6 fun _ _ h => h.b) (.cons hlast.b .nil)
          refine ⟨_, rfl, .inl rfl, ?_⟩
          refine iB (fun hw => ⟨_, rfl, k fl _ H6 SS6 hfl6 hall⟩) fun hw => ⟨_, rfl, Nat.zero_le _, fun q hq => ?_⟩
          have hf : fin = true := by
            rcases hfin with h | h
            · exact h
            · rw [hw] at h; cases h
          subst hf
          have Eq := same_new (o := .lst []) hq
          have nfq : fl ≠ q := ne_of_none hfl6 hq
          refine ⟨fl, q, us ++ [v], rfl, rfl, nfq, SqL.of (Eq _ _ hfl6), SqL.of upd_same, _, rfl, ?_⟩
          refine iT (by simp) ?_
          obtain ⟨a2, wd, kq, x2, r2, rfl, ha2, _, ok2, yes2⟩ := hlast.same Eq
          refine ⟨_, rfl, _, rfl, _, _, _, _, rfl, rfl, SqL.of (Eq _ _ hfl6), atI_last us _, _, _, _, _, rfl, rfl, SqT.of ha2, (atI_nat (j := 2) rfl), ok2, ?_⟩
          rw [yes2]
          exact ⟨_, rfl, k fl _ _ (SS6.trans Eq) (Eq _ _ hfl6) (Paired.mapP hall fun _ _ h => h.same Eq)⟩
      obtain ⟨ck, hck⟩ := hCl.some
      obtain ⟨kk, hkk⟩ := hKp.some
      have hsp5 := hspots.kp hK spW
      by_cases hd : m.isDone
      · have h1 : inS (.str m.word) ["begin", "nothing"] = false := by
          cases m with
          | op o _ _ _ => cases o <;> rfl
          | say _ _ => rfl
          | lay _ _ => rfl
          | give _ => rfl
          | fetch _ _ _ => rfl
          | call _ _ _ _ => rfl
          | _ => exact hd.elim
        have h2 : inS (.str m.word) ["go", "unless"] = false := by
          cases m with
          | op o _ _ _ => cases o <;> rfl
          | say _ _ => rfl
          | lay _ _ => rfl
          | give _ => rfl
          | fetch _ _ _ => rfl
          | call _ _ _ _ => rfl
          | _ => exact hd.elim
        have h3 : inS (.str m.word) ["put", "copy"] = false := by
          cases m with
          | op o _ _ _ => cases o <;> rfl
          | say _ _ => rfl
          | lay _ _ => rfl
          | give _ => rfl
          | fetch _ _ _ => rfl
          | call _ _ _ _ => rfl
          | _ => exact hd.elim
        have h4 : (!decide (V.str m.word = V.str "label")) = true := by
          cases m with
          | op o _ _ _ => cases o <;> rfl
          | say _ _ => rfl
          | lay _ _ => rfl
          | give _ => rfl
          | fetch _ _ _ => rfl
          | call _ _ _ _ => rfl
          | _ => exact hd.elim
        refine ⟨_, rfl, .inl rfl, iF h1 ⟨_, rfl, .inl rfl, iF h2 ⟨_, rfl, .inl rfl, iF h3 ⟨_, rfl, rfl, _, rfl, iT h4 ?_⟩⟩⟩⟩
        have hb5 : m.aux H5 b := by
          cases m <;> first | trivial | exact SS _ _ hb
        cases hstep : mstep M.rows s m with
        | none => rw [hstep] at hr2; cases hr2
        | some out =>
        refine ⟨_, rfl, _, rfl, _, rfl, a, cl, kp, m, M.rows, s, out, B, rfl, ⟨a, b, p, rfl, ha5, hb5⟩, hd, hok, hCl, hKp, by omega, hbc, hstep, fun t H6 K6 hres => ?_⟩
        have K6' : Kp [cl, kp, fl] H5 H6 := K6.mono (by simp)
        have hfl6 := K6 _ _ (by simp [ncf.symm, nkf.symm]) hfl
        refine ⟨_, rfl, Nat.zero_le _, fun q hq => ?_⟩
        have E7 := same_new (o := .tup []) hq
        have hfl7 := E7 _ _ hfl6
        obtain ⟨evs1, fin1, htold, hres⟩ : ∃ evs1 fin1, ToldAt H6 t evs1 fin1 ∧ ((∃ s', out = .next evs1 s' ∧ fin1 = false ∧ CellsAt H6 cl s'.cells (B + 1) ∧ KeepsAt H6 kp s'.keeps (B + 1)) ∨ (out = .stop evs1 ∧ (fin1 = true ∨ ∃ c, m = .give c))) := by
          cases out with
          | next e s' => exact ⟨e, false, hres.1, .inl ⟨s', rfl, rfl, hres.2⟩⟩
          | stop e =>
            obtain ⟨f, h1, h2⟩ := hres
            exact ⟨e, f, h1, .inr ⟨rfl, h2⟩⟩
        rcases htold with ⟨rfl, rfl, ht⟩ | ⟨rfl, x, r, ht, hr, hx, hf⟩
        · refine ⟨t, q, [], rfl, rfl, SqT.of (E7 _ _ ht), SqT.of upd_same, _, rfl, iF rfl ?_⟩
          rcases hres with ⟨s', rfl, _, hC6, hK6⟩ | ⟨rfl, h⟩
          · refine hn _ _ ⟨.next [] s', _, _, [], hstep, rfl, K6'.trans (Kp.same E7), by rw [List.append_nil]; exact hfl7, by simp, ?_, hC6.kp (W := []) (Kp.same E7) (by simp), ?_, .nil⟩
            · rw [mstep_pc hd hstep]; rfl
            · obtain ⟨kvs, h1, h2⟩ := hK6
              exact ⟨kvs, E7 _ _ h1, h2⟩
          · cases mstep_stop hstep
        · refine ⟨t, q, x :: r, rfl, rfl, SqT.of (E7 _ _ ht), SqT.of upd_same, _, rfl, iT rfl ?_⟩
          refine ⟨_, rfl, .inl ⟨rfl, _, SqL.of hfl7⟩, _, rfl, _, rfl, _, _, rfl, rfl, (by show 2 ≤ sizeLine; decide), fun t2 ht2 => ?_⟩
          have E8 := same_new (o := .tup [.str m.word, .int ((s.pc : Int) + 1 - 1)]) ht2
          refine ⟨_, rfl, t2, t, _, _, rfl, rfl, SqT.of upd_same, SqT.of (E8 _ _ (E7 _ _ ht)), sz (by simp; omega), fun z => absurd z (by simp), fun _ z => absurd z (by simp), fun _ _ t3 ht3 => ?_⟩
          have E9 := same_new (o := .tup ([.str m.word, .int ((s.pc : Int) + 1 - 1)] ++ x :: r)) ht3
          have S9 := E7.trans (E8.trans E9)
          have t39 := @upd_same (upd (upd H6 q (.tup [])) t2 (.tup [.str m.word, .int ((s.pc : Int) + 1 - 1)])) t3 (.tup ([.str m.word, .int ((s.pc : Int) + 1 - 1)] ++ x :: r))
          have nt3 : ∀ b o, H6 b = some o → t3 ≠ b := fun b o e => (ne_of_none (E8 _ _ (E7 _ _ e)) ht3).symm
          refine ⟨fl, _, _, rfl, rfl, S9 _ _ hfl6, szl (by omega), ?_⟩
          have K9 : Kp [cl, kp, fl] H5 (upd (upd (upd (upd H6 q (.tup [])) t2 (.tup [.str m.word, .int ((s.pc : Int) + 1 - 1)])) t3 (.tup ([.str m.word, .int ((s.pc : Int) + 1 - 1)] ++ x :: r))) fl (.lst (us ++ [.ref t3]))) := K6'.trans ((Kp.same S9).trans (Kp.upd (by simp)))
          have hw : m.word ≠ "begin" := by
            intro z
            rw [z] at h1
            cases h1
          refine hn _ _ ⟨out, _, _, [.ref t3], hstep, rfl, K9, upd_same, by simp, ?_⟩
          have t3a := (upd_ne (o := .lst (us ++ [.ref t3])) (nt3 _ _ hfl6)).trans t39
          rcases hres with ⟨s', rfl, rfl, hC6, hK6⟩ | ⟨rfl, h⟩
          · obtain ⟨ck6, hck6⟩ := hC6.some
            obtain ⟨kk6, hkk6⟩ := hK6.some
            refine ⟨by rw [mstep_pc hd hstep]; rfl, hC6.at ((upd_ne ncf).trans ((S9 _ _ hck6).trans hck6.symm)), hK6.at ((upd_ne nkf).trans ((S9 _ _ hkk6).trans hkk6.symm)), ?_⟩
            exact .cons ⟨t3, m.word, _, x, r, rfl, by simp [nt3 _ _ hck6, nt3 _ _ hkk6, nt3 _ _ hfl6], t3a, .inl ⟨hx, hf⟩, hw⟩ .nil
          · refine ⟨.ref t3, fin1, rfl, rfl, ⟨t3, m.word, _, x, r, rfl, t3a, hw, .inl hx, hf⟩, ?_⟩
            rcases h with h | ⟨c, rfl⟩
            · exact .inl h
            · exact .inr (by rfl)
      cases m with
      | beg =>
        refine ⟨_, rfl, .inl rfl, iT (by rfl) ?_⟩
        refine ⟨_, rfl, .inl ⟨rfl, _, SqL.of hfl⟩, _, rfl, _, rfl, _, _, rfl, rfl, _, rfl, cl, _, rfl, hck, fun d hd => ⟨by show 3 ≤ sizeLine; decide, fun t ht => ?_⟩⟩
        have E1 := same_new (o := .dK ck) hd
        have E2 := same_new (o := .tup [.str "begin", .int ((s.pc : Int) + 1 - 1), .ref d]) ht
        have d2 := E2 _ _ (@upd_same H5 d (.dK ck))
        have t2 := @upd_same (upd H5 d (.dK ck)) t (.tup [.str "begin", .int ((s.pc : Int) + 1 - 1), .ref d])
        have S6 := E1.trans E2
        have nd : ∀ b o, H5 b = some o → b ≠ d := fun b o e => ne_of_none e hd
        have nt : ∀ b o, H5 b = some o → b ≠ t := fun b o e => ne_of_none (E1 _ _ e) ht
        have fl6 := S6 _ _ hfl
        refine ⟨fl, _, _, rfl, rfl, fl6, szl (by omega), ?_⟩
        refine hn _ _ ⟨_, _, _, [.ref t], rfl, rfl, (Kp.same S6).trans (Kp.upd (by simp)), upd_same, by simp, rfl, ?_, ?_, ?_⟩
        · exact (hCl.at ((upd_ne (ncf)).trans (S6 _ _ hck |>.trans hck.symm))).mono (by omega)
        · exact (hKp.at ((upd_ne (nkf)).trans (S6 _ _ hkk |>.trans hkk.symm))).mono (by omega)
        · have ntf : t ≠ fl := (nt _ _ hfl).symm
          have ndf : d ≠ fl := (nd _ _ hfl).symm
          refine .cons ⟨t, _, _, _, _, rfl, by simp [(nt _ _ hck).symm, (nt _ _ hkk).symm, ntf], (upd_ne ntf).trans t2, .inr ⟨d, ck, by simp [(nd _ _ hck).symm, (nd _ _ hkk).symm, ndf], rfl, (upd_ne ndf).trans d2⟩, rfl, d, B, rfl, ?_⟩ .nil
          obtain ⟨ck', h1, h2⟩ := hCl
          rw [hck] at h1
          cases h1
          exact ⟨ck, (upd_ne ndf).trans d2, h2⟩
      | nothing =>
        refine ⟨_, rfl, .inl rfl, iT (by rfl) ?_⟩
        refine ⟨_, rfl, .inl ⟨rfl, _, SqL.of hfl⟩, _, rfl, _, rfl, _, _, rfl, rfl, _, rfl, cl, _, rfl, hck, fun d hd => ⟨by show 3 ≤ sizeLine; decide, fun t ht => ?_⟩⟩
        have E1 := same_new (o := .dK ck) hd
        have E2 := same_new (o := .tup [.str "nothing", .int ((s.pc : Int) + 1 - 1), .ref d]) ht
        have d2 := E2 _ _ (@upd_same H5 d (.dK ck))
        have t2 := @upd_same (upd H5 d (.dK ck)) t (.tup [.str "nothing", .int ((s.pc : Int) + 1 - 1), .ref d])
        have S6 := E1.trans E2
        have nt : ∀ b o, H5 b = some o → b ≠ t := fun b o e => ne_of_none (E1 _ _ e) ht
        have fl6 := S6 _ _ hfl
        refine ⟨fl, _, _, rfl, rfl, fl6, szl (by omega), ?_⟩
        have ntf : t ≠ fl := (nt _ _ hfl).symm
        have ndf : d ≠ fl := (ne_of_none hfl hd).symm
        refine hn _ _ ⟨_, _, _, [.ref t], rfl, rfl, (Kp.same S6).trans (Kp.upd (by simp)), upd_same, by simp, .ref t, false, rfl, rfl, ?_, .inr (by rfl)⟩
        exact ⟨t, _, _, _, _, rfl, (upd_ne ntf).trans t2, by decide, .inr ⟨d, ck, rfl, (upd_ne ndf).trans d2⟩, rfl⟩
      | go kk2 =>
        refine ⟨_, rfl, .inl rfl, iF (by rfl) ⟨_, rfl, .inl rfl, iT (by rfl) ?_⟩⟩
        cases e : spotOf M.rows kk2 with
        | none =>
          rw [show mstep M.rows s (.go kk2) = none by simp only [mstep, e]] at hr2
          cases hr2
        | some q =>
          refine ⟨_, rfl, rfl, _, rfl, iT (by rfl) ⟨_, rfl, _, rfl, _, _, _, _, rfl, rfl, SqT.of ha5, rfl, sp, _, rfl, hsp5.get huniq e, ?_⟩⟩
          refine hn _ _ ⟨.next [] { s with pc := q }, _, _, [], (by simp only [mstep, e]), rfl, Kp.refl _ _, by rw [List.append_nil]; exact hfl, by simp, rfl, hCl.mono (by omega), hKp.mono (by omega), .nil⟩
      | unl c2 kk2 =>
        refine ⟨_, rfl, .inl rfl, iF (by rfl) ⟨_, rfl, .inl rfl, iT (by rfl) ?_⟩⟩
        cases e : s.cells c2 with
        | none =>
          rw [show mstep M.rows s (.unl c2 kk2) = none by simp only [mstep, e]] at hr2
          cases hr2
        | some v =>
        cases e2 : spotOf M.rows kk2 with
        | none =>
          rw [show mstep M.rows s (.unl c2 kk2) = none by simp only [mstep, e, e2]] at hr2
          cases hr2
        | some q =>
          refine ⟨_, rfl, rfl, _, rfl, iF (by rfl) ⟨_, rfl, _, rfl, _, _, _, _, rfl, rfl, SqT.of ha5, rfl, cl, _, rfl, hCl.get e, rfl, _, rfl, iB (fun h0 => ?_) (fun h0 => ?_)⟩⟩
          · have hv0 : v = 0 := by simpa using h0
            refine ⟨_, rfl, _, rfl, _, _, _, _, rfl, rfl, SqT.of ha5, rfl, sp, _, rfl, hsp5.get huniq e2, ?_⟩
            exact hn _ _ ⟨.next [] { s with pc := q }, _, _, [], (by simp only [mstep, e, e2, hv0, if_true]), rfl, Kp.refl _ _, by rw [List.append_nil]; exact hfl, by simp, rfl, hCl.mono (by omega), hKp.mono (by omega), .nil⟩
          · have hv0 : v ≠ 0 := by simpa using h0
            refine ⟨_, rfl, ?_⟩
            exact hn _ _ ⟨.next [] { s with pc := s.pc + 1 }, _, _, [], (by simp only [mstep, e, e2, if_neg hv0]), rfl, Kp.refl _ _, by rw [List.append_nil]; exact hfl, by simp, rfl, hCl.mono (by omega), hKp.mono (by omega), .nil⟩
      | put c2 n2 =>
        refine ⟨_, rfl, .inl rfl, iF (by rfl) ⟨_, rfl, .inl rfl, iF (by rfl) ⟨_, rfl, .inl rfl, iT (by rfl) ?_⟩⟩⟩
        obtain ⟨H6, hp, hC6, o, rfl⟩ := hCl.put c2 n2 (by omega)
        refine ⟨_, rfl, rfl, _, rfl, iT (by rfl) ⟨_, rfl, _, _, _, _, rfl, rfl, SqT.of ha5, rfl, _, rfl, _, rfl, _, _, _, _, rfl, rfl, SqT.of ha5, rfl, cl, _, rfl, hp, ?_⟩⟩
        exact hn _ _ ⟨.next [] { s with pc := s.pc + 1, cells := s.cells.set c2 n2 }, _, _, [], rfl, rfl, Kp.upd (by simp), by rw [List.append_nil, upd_ne ncf.symm]; exact hfl, by simp, rfl, hC6, (hKp.at (upd_ne nck.symm)).mono (by omega), .nil⟩
      | copy c2 d2 =>
        refine ⟨_, rfl, .inl rfl, iF (by rfl) ⟨_, rfl, .inl rfl, iF (by rfl) ⟨_, rfl, .inl rfl, iT (by rfl) ?_⟩⟩⟩
        cases e : s.cells d2 with
        | none =>
          rw [show mstep M.rows s (.copy c2 d2) = none by simp only [mstep, e]] at hr2
          cases hr2
        | some v =>
        obtain ⟨H6, hp, hC6, o, rfl⟩ := hCl.put c2 v (by omega)
        refine ⟨_, rfl, rfl, _, rfl, iF (by rfl) ⟨_, rfl, _, rfl, _, _, _, _, rfl, rfl, SqT.of ha5, rfl, cl, _, rfl, hCl.get e, _, rfl, _, rfl, _, _, _, _, rfl, rfl, SqT.of ha5, rfl, cl, _, rfl, hp, ?_⟩⟩
        exact hn _ _ ⟨.next [] { s with pc := s.pc + 1, cells := s.cells.set c2 v }, _, _, [], (by simp only [mstep, e]), rfl, Kp.upd (by simp), by rw [List.append_nil, upd_ne ncf.symm]; exact hfl, by simp, rfl, hC6, (hKp.at (upd_ne nck.symm)).mono (by omega), .nil⟩
      | label k2 =>
        refine ⟨_, rfl, .inl rfl, iF (by rfl) ⟨_, rfl, .inl rfl, iF (by rfl) ⟨_, rfl, .inl rfl, iF (by rfl) ⟨_, rfl, rfl, _, rfl, iF (by rfl) ?_⟩⟩⟩⟩
        exact hn _ _ ⟨.next [] { s with pc := s.pc + 1 }, _, _, [], rfl, rfl, Kp.refl _ _, by rw [List.append_nil]; exact hfl, by simp, rfl, hCl.mono (by omega), hKp.mono (by omega), .nil⟩
      | _ => exact absurd trivial hd
end
end K48
set_option maxHeartbeats 8000000
set_option linter.all false
/-! _law_machine -/
namespace K48
open PySem L2
theorem popped_len {p q : List Int} {v : Int} (h : popped p = some (q, v)) : q.length + 1 = p.length := by
  rw [popped_eq h]; simp
theorem popped_mem {p q : List Int} {v : Int} (h : popped p = some (q, v)) {b : Int → Prop} (hb : ∀ x ∈ p, b x) : (∀ x ∈ q, b x) ∧ b v := by
  rw [popped_eq h] at hb
  exact ⟨fun x hx => hb x (by simp [hx]), hb v (by simp)⟩
theorem bnd_snoc {p : List Int} {v : Int} (h : ∀ x ∈ p, Bnd x) (hv : Bnd v) : ∀ x ∈ p ++ [v], Bnd x := fun x hx => by
  rcases List.mem_append.mp hx with h1 | h1
  · exact h x h1
  · rw [List.mem_singleton.mp h1]; exact hv
theorem kstep_bnd {rows : List MR} {s s' : KS} {kr : KR} {evs : List Ev} (hok : KrOk kr) (hl : s.pile.length ≤ 900000) (hp : ∀ x ∈ s.pile, Bnd x) (hc : BndC s.cells) (hk : BndK s.keeps)
    (h : kstep rows s kr = some (.next evs s')) : (∀ x ∈ s'.pile, Bnd x) ∧ BndC s'.cells ∧ BndK s'.keeps ∧ s'.pile.length ≤ s.pile.length + 1 := by
  cases kr with
  | row k =>
    simp only [kstep] at h
    split at h
    · rename_i e
      cases h; exact ⟨hp, hc, hk, Nat.le_succ _⟩
    · cases h
  | nothing k =>
    simp only [kstep] at h
    split at h <;> cases h
  | push n k => cases h; exact ⟨bnd_snoc hp hok, hc, hk, by simp⟩
  | load c k =>
    simp only [kstep] at h
    split at h
    · rename_i v e
      cases h; exact ⟨bnd_snoc hp (hc _ _ e), hc, hk, by simp⟩
    · cases h
  | store c k =>
    simp only [kstep] at h
    split at h
    · rename_i p v e
      cases h
      obtain ⟨h1, h2⟩ := popped_mem e hp
      have := popped_len e
      exact ⟨h1, hc.set h2, hk, by dsimp only; omega⟩
    · cases h
  | fetch f n k => cases h; exact ⟨bnd_snoc hp (kept_bnd hk f n hok.1 hok.2), hc, hk, by simp⟩
  | lay n k =>
    simp only [kstep] at h
    split at h
    · rename_i p v e
      cases h
      obtain ⟨h1, h2⟩ := popped_mem e hp
      have := popped_len e
      exact ⟨h1, hc, hk.set h2, by dsimp only; omega⟩
    · cases h
  | op o k =>
    simp only [kstep] at h
    split at h
    · rename_i p b e
      split at h
      · rename_i q a e2
        split at h
        · rename_i v e3
          cases h
          obtain ⟨h1, h2⟩ := popped_mem e hp
          obtain ⟨h3, h4⟩ := popped_mem e2 h1
          have := popped_len e
          have := popped_len e2
          exact ⟨bnd_snoc h3 (reck_bnd h4 h2 e3), hc, hk, by simp; omega⟩
        · cases h
      · cases h
    · cases h
  | jump a k =>
    simp only [kstep] at h
    split at h
    · cases h; exact ⟨hp, hc, hk, Nat.le_succ _⟩
    · cases h
  | unl a k =>
    simp only [kstep] at h
    split at h
    · rename_i p v e
      split at h
      · cases h
        obtain ⟨h1, h2⟩ := popped_mem e hp
        have := popped_len e
        exact ⟨h1, hc, hk, by dsimp only; omega⟩
      · cases h
    · cases h
  | call f n many k =>
    simp only [kstep] at h
    split at h
    · rename_i hm
      split at h
      · rename_i co _ _ _ e
        cases h
        have h1 : ∀ x ∈ s.pile.take (s.pile.length - many.toNat), Bnd x := fun x hx => hp x (List.mem_of_mem_take hx)
        cases co with
        | none =>
          refine ⟨?_, hc, hk, ?_⟩
          · simpa using h1
          · simp; omega
        | some c =>
          refine ⟨bnd_snoc h1 (came_bnd f n hok.1 hok.2 _ (by rw [List.length_drop]; omega)), hc, hk, ?_⟩
          simp
      · cases h
    · cases h
  | give many k =>
    simp only [kstep] at h
    split at h
    · split at h <;> cases h
    · cases h
  | say kd k =>
    simp only [kstep] at h
    split at h
    · rename_i p v e
      cases h
      obtain ⟨h1, h2⟩ := popped_mem e hp
      have := popped_len e
      exact ⟨h1, hc, hk, by dsimp only; omega⟩
    · cases h
theorem kstep_stop {rows : List MR} {s : KS} {kr : KR} {evs : List Ev} (h : kstep rows s kr = some (.stop evs)) : evs = [none] := by
  cases kr with
  | row k =>
    simp only [kstep] at h
    split at h <;> cases h
  | nothing k =>
    simp only [kstep] at h
    split at h <;> cases h
    rfl
  | push n k => cases h
  | load c k =>
    simp only [kstep] at h
    split at h <;> cases h
  | store c k =>
    simp only [kstep] at h
    split at h <;> cases h
  | fetch f n k => cases h
  | lay n k =>
    simp only [kstep] at h
    split at h <;> cases h
  | op o k =>
    simp only [kstep] at h
    split at h
    · split at h
      · split at h <;> cases h
        rfl
      · cases h
    · cases h
  | jump a k =>
    simp only [kstep] at h
    split at h <;> cases h
  | unl a k =>
    simp only [kstep] at h
    split at h
    · split at h <;> cases h
    · cases h
  | call f n many k =>
    simp only [kstep] at h
    split at h
    · split at h <;> cases h
    · cases h
  | give many k =>
    simp only [kstep] at h
    split at h
    · split at h <;> cases h
      rfl
    · cases h; rfl
  | say kd k =>
    simp only [kstep] at h
    split at h <;> cases h
theorem knext_no {rows : List MR} {s s' : KS} {kr : KR} {evs : List Ev} (h : kstep rows s kr = some (.next evs s')) : inS (.str kr.word) ["give", "nothing"] = false := by
  cases kr with
  | nothing k =>
    simp only [kstep] at h
    split at h <;> cases h
  | give many k =>
    simp only [kstep] at h
    split at h
    · split at h <;> cases h
    · cases h
  | op o k => cases o <;> rfl
  | _ => rfl
theorem kstep_pc {rows : List MR} {s s' : KS} {kr : KR} {evs : List Ev} (hd : kr.isWork) (h : kstep rows s kr = some (.next evs s')) : s'.pc = s.pc + 1 ∧ s'.cells = s.cells := by
  cases kr with
  | fetch f n k => cases h; exact ⟨rfl, rfl⟩
  | lay n k =>
    simp only [kstep] at h
    split at h <;> cases h
    exact ⟨rfl, rfl⟩
  | op o k =>
    simp only [kstep] at h
    split at h
    · split at h
      · split at h <;> cases h
        exact ⟨rfl, rfl⟩
      · cases h
    · cases h
  | call f n many k =>
    simp only [kstep] at h
    split at h
    · split at h <;> cases h
      exact ⟨rfl, rfl⟩
    · cases h
  | give many k =>
    simp only [kstep] at h
    split at h
    · split at h <;> cases h
    · cases h
  | say kd k =>
    simp only [kstep] at h
    split at h <;> cases h
    exact ⟨rfl, rfl⟩
  | _ => exact hd.elim
theorem row_iff (m : KR) : decide (V.str m.word = V.str "row") = decide (m.isRow = true) := by
  cases m with
  | op o _ => cases o <;> rfl
  | _ => rfl
theorem kword_ne (m : KR) : m.word ≠ "begin" := by
  intro z
  have h : inS (.str m.word) ["begin"] = false := by
    cases m with
    | op o _ => cases o <;> rfl
    | _ => rfl
  rw [z] at h
  cases h
/-- the loop's state -/
def MacW (ra md pl pi cl kp fl : Addr) (M : Md) (krows : List KR) (evs : List Ev) (H4 : Hp) : Nat → St → Hp → Prop := fun n' σ' H' => ∃ (s : KS) (mst : Int) (x4 x10 x11 x12 : Option V) (us : List V) (acc rest : List Ev) (B : Nat),
  σ' = [some (.ref ra), some (.ref md), some (.ref pl), some (.int mst), x4, some (.ref pi), some (.ref cl), some (.ref kp), some (.ref fl), some (.int (s.pc : Int)), x10, x11, x12] ∧
  Kp [pi, cl, kp, fl] H4 H' ∧ H' pi = some (.lst (s.pile.map V.int)) ∧ CellsAt H' cl s.cells B ∧ KeepsAt H' kp s.keeps B ∧ H' fl = some (.lst us) ∧ Paired (EvW [pi, cl, kp, fl] H') us acc ∧ krun M.rows krows n' mst s = some rest ∧ acc ++ rest = evs ∧
  (∀ x ∈ s.pile, Bnd x) ∧ BndC s.cells ∧ BndK s.keeps ∧ us.length + n' ≤ 800000 ∧ B + n' ≤ 800003 ∧ s.pile.length + n' ≤ 800003
/-- a row's work done -/
def MacN (ra md pl pi cl kp fl a : Addr) (M : Md) (H5 : Hp) (mst : Int) (us : List V) (s : KS) (m : KR) (B : Nat) : St → Hp → Prop := fun σ' H' => ∃ (out : KOut) (mst2 pc : Int) (x4 x12 : Option V) (ys : List V),
  kstep M.rows s m = some out ∧ mst2 = mst ∧
  σ' = [some (.ref ra), some (.ref md), some (.ref pl), some (.int mst2), x4, some (.ref pi), some (.ref cl), some (.ref kp), some (.ref fl), some (.int pc), some (.ref a), some (.str m.word), x12] ∧
  Kp [pi, cl, kp, fl] H5 H' ∧ H' fl = some (.lst (us ++ ys)) ∧ ys.length ≤ 1 ∧
  match out with
  | .next evs s' => pc = (s'.pc : Int) ∧ H' pi = some (.lst (s'.pile.map V.int)) ∧ CellsAt H' cl s'.cells (B + 1) ∧ KeepsAt H' kp s'.keeps (B + 1) ∧ Paired (EvW [pi, cl, kp, fl] H') ys evs
  | .stop evs => ∃ v fin, evs = [none] ∧ ys = [v] ∧ LastV H' v fin ∧ (fin = true ∨ inS (.str m.word) ["give", "nothing"] = true)
section
variable {P : Program} {w : World} {K : PySem.W.Frag} {mg : Str → Option Value} {base : Heap} {aO aL : Addr}
def spMachine (K : PySem.W.Frag) : Sp := fun vs H Q _ => ∃ (ra md pl : Addr) (kvs : List V) (krows : List KR) (M : Md) (ps : List Int) (most : Int) (n : Nat) (evs : List Ev), vs = [.ref ra, .ref md, .ref pl, .int most] ∧
  H ra = some (.lst kvs) ∧ Paired (KRowV H) kvs krows ∧ (∀ r ∈ krows, KrOk r ∧ 0 ≤ r.k ∧ r.k.toNat < M.rows.length) ∧ MadeAt H md M ∧
  H pl = some (.lst (ps.map V.int)) ∧ ps.length ≤ 3 ∧ (∀ p ∈ ps, Bnd p) ∧ (∀ m ∈ M.rows, MrOk m) ∧
  krun M.rows krows n most ⟨0, [], partsC ps ps.length, fun _ _ => none⟩ = some evs ∧ n ≤ 800000 ∧
  ∀ (fl : Addr) (vs' : List V) (H' : Hp), Same H H' → H' fl = some (.lst vs') → Paired (EvB H') vs' evs → Q (.ref fl) H'
theorem scMachine : FnScope ["_law_rows", "_law_made_here", "_law_parts", "_law_most", "_law_k", "_law_pile", "_law_cells", "_law_keeps", "_law_found", "_law_at", "_law_row", "_law_word", "_law_told"] ["_law_rows", "_law_made_here", "_law_parts", "_law_most"] (defScope (topS 25)) := ⟨rfl, rfl, rfl, by decide +kernel, rfl, by decide +kernel, by decide +kernel⟩
theorem fn_machine {f : Addr} {fd : FuncData} (F : Fun K "_law_machine" "_law_machine" (topS 25) f fd) (T : Blt K mg aO aL)
    (D_worked : Dfn P w K mg base "_law_worked" 2 ["_law_row", "_law_middle_here", "_law_pile", "_law_keeps"] spWorked) :
    FnOk P w K mg base CX0 3 f fd ["_law_rows", "_law_made_here", "_law_parts", "_law_most"] (spMachine K) := by
  have sc := scMachine
  refine F.ok sc (fun vs H Q E h => ?_) (fun cdv A outer s0 H vs Q E hr h => ?_)
  · obtain ⟨ra, md, pl, kvs, krows, M, ps, most, n, evs, rfl, _⟩ := h
    rfl
  · obtain ⟨ra, md, pl, kvs, krows, M, ps, most, n, evs, rfl, hra, hkr, hkok, ⟨kt, rt, nt, vs0, ns, hM⟩, hpl, hps, hbps, hmok, hrun, hn, k⟩ := h
    have hu := hu_of hr
    refine ⟨_,
(pss_cons (ps_asg (pe_tup (pa_cons (pe_lst pa_nil) (pa_cons pe_dnewK (pa_cons pe_dnewT (pa_cons (pe_lst pa_nil) (pa_cons pe_int pa_nil)))))) (pg_tup rfl (pgs_cons (pg_name (i := 5) sc.nd rfl (Or.inl rfl)) (pgs_cons (pg_name (i := 6) sc.nd rfl (Or.inl rfl)) (pgs_cons (pg_name (i := 7) sc.nd rfl (Or.inl rfl)) (pgs_cons (pg_name (i := 8) sc.nd rfl (Or.inl rfl)) (pgs_cons (pg_name (i := 9) sc.nd rfl (Or.inl rfl)) pgs_nil)))))))
(pss_cons (ps_for PassesOwn.never rfl (pi_range1 (by rfl) T.range (pa_cons (pe_callB (call_len) (by rfl) T.len PySem.boot_len (pa_cons (pv 2) pa_nil)) pa_nil)) (pg_name (i := 4) sc.nd rfl (Or.inl rfl))
(pss_one (ps_dput hu (pv 6) (pv 4) (pe_ix ix_list (pv 2) (pv 4) (fun _ _ => rfl)) rfl)))
(pss_cons (ps_while PassesOwn.never (pt_cmpR op_ge (pv 3) pe_int (nomark _))
(pss_cons (ps_par rfl sc.nd (i := 10) (j := 9) rfl rfl (by decide) rfl rfl (pa_cons (pe_ix ix_list (pv 0) (pv 9) (fun _ _ => rfl)) (pa_cons (pe_op op_add (pv 9) pe_int) pa_nil)) (by rfl))
(pss_cons (ps_par rfl sc.nd (i := 11) (j := 4) rfl rfl (by decide) rfl rfl (pa_cons (pe_ix ix_tup (pv 10) pe_int (fun _ _ => rfl)) (pa_cons (pe_ix ix_tup (pv 10) (pe_op op_sub (pe_callB (call_len) (by rfl) T.len PySem.boot_len (pa_cons (pv 10) pa_nil)) pe_int) (fun _ _ => rfl)) pa_nil)) (by rfl))
(pss_cons (ps_if (pt_inT hu (pv 11) (pas_cons (pas_cons pas_nil)) (by decide))
(pss_cons (ps_set (i := 3) sc.nd rfl (Or.inl rfl) (pe_op op_sub (pv 3) (pe_callTy (call_int1) (by rfl) T.int (by decide +kernel) (pa_cons (pe_cmpR op_eq (pv 11) pe_str (nomark _)) pa_nil))))
(pss_cons (ps_if (pt_cmpR (op_neNil hr.units0) (pv 5) (pe_lst pa_nil) (nomark _))
(pss_one (ps_ret pe_non))
pss_nil)
(pss_one (ps_expr (pe_bm PySem.F.plainAttrs_list PySem.F.slot_list_append PySem.F.type_list_append mt_append (pv 8) (pa_cons (pe_tup (pa_cons (pe_dget2 hu (pe_disp (pps_cons pe_str pe_str pps_nil) (by rfl) (by rfl) (fun z => by cases z) (by decide)) (pv 11) (pv 11) ⟨rfl, rfl, rfl, rfl⟩) (pa_cons (pv 4) (pa_cons (pe_callTy (call_dictC) (by rfl) T.dict (by decide +kernel) (pa_cons (pv 6) pa_nil)) pa_nil)))) pa_nil))))))
(pss_one (ps_if (pt_inT hu (pv 11) (pas_cons (pas_cons pas_nil)) (by decide))
(pss_one (ps_set (i := 9) sc.nd rfl (Or.inl rfl) (pe_ifExp (PW.pt (pw_or (pt_cmpR op_eq (pv 11) pe_str (nomark _)) (pw_or1 (pt_cmpR op_eq (pe_bm0 PySem.F.plainAttrs_list PySem.F.slot_list_pop PySem.F.type_list_pop mt_pop (pv 5)) pe_int (nomark _))))) (pe_ix ix_tup (pv 10) pe_int (fun _ _ => rfl)) (pv 9))))
(pss_one (ps_if (pt_inT hu (pv 11) (pas_cons (pas_cons pas_nil)) (by decide))
(pss_one (ps_expr (pe_bm PySem.F.plainAttrs_list PySem.F.slot_list_append PySem.F.type_list_append mt_append (pv 5) (pa_cons (pe_ifExp (pt_cmpR op_eq (pv 11) pe_str (nomark _)) (pe_ix ix_tup (pv 10) pe_int (fun _ _ => rfl)) (pe_dget hu (pv 6) (pe_ix ix_tup (pv 10) pe_int (fun _ _ => rfl)) (fun _ _ => rfl))) pa_nil))))
(pss_one (ps_if (pt_cmpR op_eq (pv 11) pe_str (nomark _))
(pss_one (ps_dput hu (pv 6) (pe_ix ix_tup (pv 10) pe_int (fun _ _ => rfl)) (pe_bm0 PySem.F.plainAttrs_list PySem.F.slot_list_pop PySem.F.type_list_pop mt_pop (pv 5)) rfl))
(pss_cons (ps_set (i := 12) sc.nd rfl (Or.inl rfl) (pe_callD D_worked (hr.mono (by omega)) (by rfl) (pa_cons (pv 10) (pa_cons (pe_ix ix_tup (pe_ix ix_tup (pv 1) pe_int (fun _ _ => rfl)) (pv 4) (fun _ _ => rfl)) (pa_cons (pv 5) (pa_cons (pv 7) pa_nil))))))
(pss_one (ps_if (pt_cmpR (op_neNilT hr.units0) (pv 12) (pe_tup pa_nil) (nomark _))
(pss_one (ps_expr (pe_bm PySem.F.plainAttrs_list PySem.F.slot_list_append PySem.F.type_list_append mt_append (pv 8) (pa_cons (pe_op op_catA (pe_tup (pa_cons (pv 11) (pa_cons (pv 4) pa_nil))) (pv 12)) pa_nil))))
pss_nil))))))))))
(pss_one (ps_if (PW.pt (pw_or (pt_inT hu (pv 11) (pas_cons (pas_cons pas_nil)) (by decide)) (pw_or1 (PW.pt (pw_and (pt_cmpR (op_neNil hr.units0) (pv 8) (pe_lst pa_nil) (nomark _)) (pw_and1 (pt_inT hu (pe_ix ix_tup (pe_ix ix_list (pv 8) (pe_un un_neg pe_int) (fun _ _ => rfl)) pe_int (fun _ _ => rfl)) (pas_cons (pas_cons pas_nil)) (by decide))))))))
(pss_one (ps_ret (pv 8)))
pss_nil))))))
(pss_one (ps_ret (pv 8))))))
    , ?_⟩
    refine ⟨Nat.zero_le _, fun pi hpi => fun cl hcl => fun kp hkp => ⟨Nat.zero_le _, fun fl hfl => ⟨by show 5 ≤ sizeLine; decide, fun t5 ht5 => ?_⟩⟩⟩
    refine ⟨_, _, rfl, SqT.of upd_same, rfl, _, _, rfl, _, _, rfl, _, _, rfl, _, _, rfl, _, _, rfl, rfl, ?_⟩
    have E0 := same_new (o := .lst []) hpi
    have E1 := same_new (o := .dK []) hcl
    have E2 := same_new (o := .dT []) hkp
    have E3 := same_new (o := .lst []) hfl
    have E4 := same_new (o := .tup [.ref pi, .ref cl, .ref kp, .ref fl, .int 0]) ht5
    have pi1 := (E1.trans (E2.trans (E3.trans E4))) _ _ (@upd_same H pi (.lst []))
    have cl1 := (E2.trans (E3.trans E4)) _ _ (@upd_same (upd H pi (.lst [])) cl (.dK []))
    have kp1 := (E3.trans E4) _ _ (@upd_same (upd (upd H pi (.lst [])) cl (.dK [])) kp (.dT []))
    have fl1 := E4 _ _ (@upd_same (upd (upd (upd H pi (.lst [])) cl (.dK [])) kp (.dT [])) fl (.lst []))
    have E := E0.trans (E1.trans (E2.trans (E3.trans E4)))
    have hpi0 : H pi = none := hpi
    have hcl0 : H cl = none := E0.free hcl
    have hkp0 : H kp = none := (E0.trans E1).free hkp
    have hfl0 : H fl = none := (E0.trans (E1.trans E2)).free hfl
    have npf : pi ≠ fl := ne_of_none ((E1.trans E2) _ _ (@upd_same H pi (.lst []))) hfl
    generalize upd (upd (upd (upd (upd H pi (.lst [])) cl (.dK [])) kp (.dT [])) fl (.lst [])) t5 (.tup [.ref pi, .ref cl, .ref kp, .ref fl, .int 0]) = H1 at E cl1 kp1 fl1 pi1 ⊢
    clear E0 E1 E2 E3 E4 ht5 hfl hkp hcl hpi
    have nck : cl ≠ kp := ne_of cl1 kp1 (by intro z; cases z)
    have ncf : cl ≠ fl := ne_of cl1 fl1 (by intro z; cases z)
    have nkf : kp ≠ fl := ne_of kp1 fl1 (by intro z; cases z)
    have npc : pi ≠ cl := ne_of pi1 cl1 (by intro z; cases z)
    have npk : pi ≠ kp := ne_of pi1 kp1 (by intro z; cases z)
    -- the parts
    refine ⟨_, rfl, _, ps.length, rfl, .inl ⟨_, SqL.of (E _ _ hpl), (List.length_map _).symm⟩, _, rfl, by omega, by omega, ?_⟩
    refine for_range (lo := 0) (n := ((ps.length : Nat) : Int).toNat) (fun i σ' H' => ∃ x3, σ' = [some (.ref ra), some (.ref md), some (.ref pl), some (.int most), x3, some (.ref pi), some (.ref cl), some (.ref kp), some (.ref fl), some (.int 0), none, none, none] ∧
      CellsAt H' cl (partsC ps i) i ∧ ∀ b, b ≠ cl → H' b = H1 b) ?_ ?_ ?_
    · exact ⟨none, rfl, ⟨[], cl1, Nat.le_refl _, fun c => by rw [partsC_zero]; rfl⟩, fun _ _ => rfl⟩
    · rintro i σ' H2 hi ⟨x3, rfl, hC, hoff⟩
      have hi' : i < ps.length := by omega
      have hpl2 : H2 pl = _ := (hoff pl (ne_of_none hpl hcl0)).trans (E _ _ hpl)
      obtain ⟨H3, hp, hC3, o, rfl⟩ := hC.put (i : Int) ps[i] (by omega)
      refine ⟨_, rfl, _, rfl, _, _, _, _, rfl, rfl, SqL.of hpl2, by rw [Int.zero_add]; exact atI_int hi', ?_⟩
      refine ⟨_, rfl, _, rfl, cl, _, rfl, (by rw [Int.zero_add]; exact hp), ?_⟩
      refine ⟨_, rfl, ?_, fun b nb => by rw [upd_ne nb]; exact hoff b nb⟩
      rw [← partsC_succ hi']
      exact hC3
    rintro σ' H4 ⟨x3', rfl, hC, hoff⟩
    have hpl' : ((ps.length : Nat) : Int).toNat = ps.length := by omega
    rw [hpl'] at hC
    have S4 : Same H H4 := fun b o e => by
      rw [hoff b (ne_of_none e hcl0)]
      exact E _ _ e
    have kp4 : H4 kp = _ := (hoff kp nck.symm).trans kp1
    have fl4 : H4 fl = _ := (hoff fl ncf.symm).trans fl1
    have pi4 : H4 pi = _ := (hoff pi npc).trans pi1
    have W0 : ∀ b o, H b = some o → b ∉ [pi, cl, kp, fl] := fun b o e => by
      have h0 := ne_of_none e hpi0
      have h1 := ne_of_none e hcl0
      have h2 := ne_of_none e hkp0
      have h3 := ne_of_none e hfl0
      simp [h0, h1, h2, h3]
    refine ⟨MacW ra md pl pi cl kp fl M krows evs H4, ⟨n, ⟨0, [], partsC ps ps.length, fun _ _ => none⟩, most, x3', none, none, none, [], [], evs, ps.length, rfl, Kp.refl _ _, pi4, hC, ⟨[], kp4, Nat.zero_le _, fun _ _ => rfl⟩, fl4, .nil, hrun, rfl, (by simp), partsC_bnd hbps _, fun _ _ _ e => (by cases e), by simpa using hn, by omega, by simp; omega⟩, ?_⟩
    rintro n' σ' H5 ⟨s, mst, x4, x10, x11, x12, us, acc, rest, B, rfl, hK, hPi, hCl, hKp, hfl, hev, hr2, hacc, hbp, hbc, hbk, hus, hB, hpn⟩
    have SS : Same H H5 := fun b o e => hK b o (W0 b o e) (S4 _ _ e)
    cases n' with
    | zero => cases hr2
    | succ n' =>
    by_cases hneg : mst < 0
    · rw [show krun M.rows krows (n' + 1) mst s = some [] from if_pos hneg] at hr2
      cases hr2
      rw [List.append_nil] at hacc
      subst hacc
      refine ⟨_, rfl, _, _, rfl, rfl, _, rfl, ?_⟩
      refine iF (decide_eq_false (by omega)) ?_
      exact ⟨_, rfl, k fl us H5 SS hfl (Paired.mapP hev fun _ _ h => h.b)⟩
    · have hrr : krun M.rows krows (n' + 1) mst s = _ := if_neg hneg
      rw [hrr] at hr2
      clear hrr
      refine ⟨_, rfl, _, _, rfl, rfl, _, rfl, ?_⟩
      refine iT (decide_eq_true (by omega)) ⟨fun σ' H' => ∃ m', m' < n' + 1 ∧ MacW ra md pl pi cl kp fl M krows evs H4 m' σ' H', fun _ _ h => h, ?_⟩
      cases em : krows[s.pc]? with
      | none => rw [em] at hr2; cases hr2
      | some m =>
      rw [em] at hr2
      dsimp only at hr2
      obtain ⟨v, hv, a, rfl, ha⟩ := paired_at hkr em
      have ha5 := SS _ _ ha
      have haW := W0 _ _ ha
      obtain ⟨hok, hk0, hk1⟩ := hkok m (List.mem_of_getElem? em)
      refine ⟨_, rfl, _, rfl, _, _, _, _, rfl, rfl, SqL.of (SS _ _ hra), atI_nat hv, _, rfl, _, _, rfl, rfl, _, _, rfl, ?_⟩
      refine ⟨_, rfl, _, _, _, _, rfl, rfl, SqT.of ha5, (kat0 m), _, rfl, _, rfl, _, m.tup.length, rfl, .inr ⟨_, SqT.of ha5, rfl⟩, _, _, rfl, rfl, _, _, _, _, rfl, rfl, SqT.of ha5, kat_last m, _, _, rfl, ?_⟩
      dsimp only
      show tSeq _ _ _ [some (.ref ra), some (.ref md), some (.ref pl), some (.int mst), some (.int m.k), some (.ref pi), some (.ref cl), some (.ref kp), some (.ref fl), some (.int ((s.pc : Int) + 1)), some (.ref a), some (.str m.word), x12] H5
      refine seq_cut (MacN ra md pl pi cl kp fl a M H5 (if m.isRow = true then mst - 1 else mst) us s m B) ?_ (fun nx hn => ?_)
      · rintro _ H6 ⟨out, _, pc, x4', x12', ys, hstep, rfl, rfl, K6, hfl6, hys, hout⟩
        rw [hstep] at hr2
        have hev6 := evs_mono K6 hev
        have SS6 : Same H H6 := fun b o e => K6 b o (W0 b o e) (SS _ _ e)
        cases out with
        | next evs1 s' =>
          obtain ⟨rfl, hP6, hC6, hK6, hys2⟩ := hout
          dsimp only at hr2
          have hword : inS (.str m.word) ["give", "nothing"] = false := knext_no hstep
          cases er : krun M.rows krows n' (if m.isRow = true then mst - 1 else mst) s' with
          | none => rw [er] at hr2; cases hr2
          | some rest' =>
          rw [er] at hr2
          cases hr2
          obtain ⟨bp6, bc6, bk6, hpl6⟩ := kstep_bnd hok (by omega) hbp hbc hbk hstep
          have hall := Paired.app hev6 hys2
          have fin : ∀ H', Same H6 H' → ∃ m', m' < n' + 1 ∧ MacW ra md pl pi cl kp fl M krows evs H4 m' [some (.ref ra), some (.ref md), some (.ref pl), some (.int (if m.isRow = true then mst - 1 else mst)), x4', some (.ref pi), some (.ref cl), some (.ref kp), some (.ref fl), some (.int (s'.pc : Int)), some (.ref a), some (.str m.word), x12'] H' := fun H' S' => by
            refine ⟨n', by omega, s', _, _, _, _, _, us ++ ys, acc ++ evs1, rest', B + 1, rfl, hK.trans (K6.trans (Kp.same S')), S' _ _ hP6, ?_, ?_, S' _ _ hfl6, evs_mono (Kp.same S') hall, er, by rw [List.append_assoc]; exact hacc, bp6, bc6, bk6, by rw [List.length_append]; omega, by omega, by omega⟩
            · obtain ⟨kvs, h1, h2⟩ := hC6
              exact ⟨kvs, S' _ _ h1, h2⟩
            · obtain ⟨kvs, h1, h2⟩ := hK6
              exact ⟨kvs, S' _ _ h1, h2⟩
          refine ⟨_, rfl, .inl rfl, ?_⟩
          refine iF hword ⟨_, rfl, Nat.zero_le _, fun q hq => ?_⟩
          have Eq := same_new (o := .lst []) hq
          have nfq : fl ≠ q := ne_of_none hfl6 hq
          refine ⟨fl, q, us ++ ys, rfl, rfl, nfq, SqL.of (Eq _ _ hfl6), SqL.of upd_same, _, rfl, ?_⟩
          rcases List.eq_nil_or_concat (us ++ ys) with hnil | ⟨us', v', hv'⟩
          · rw [hnil]
            refine iF rfl ?_
            exact fin _ Eq
          · rw [List.concat_eq_append] at hv'
            rw [hv'] at hfl6 hall ⊢
            refine iT (by simp) ?_
            obtain ⟨x, _, he⟩ := paired_get hall (i := us'.length) (a := v') (by simp)
            obtain ⟨a2, wd, kq, x2, r2, rfl, ha2, ok2, no2⟩ := he.last
            have ok3 : OkIn (upd H6 q (.lst [])) x2 := by
              rcases ok2 with h | ⟨d, kvs, e1, e2⟩
              · exact .inl h
              · exact .inr ⟨d, kvs, e1, Eq _ _ e2⟩
            refine ⟨_, rfl, _, rfl, _, _, _, _, rfl, rfl, SqL.of (Eq _ _ hfl6), atI_last us' _, _, _, _, _, rfl, rfl, SqT.of (Eq _ _ ha2), (atI_nat (j := 2) rfl), ok3, ?_⟩
            rw [no2]
            exact fin _ Eq
        | stop evs1 =>
          obtain ⟨v, fin, rfl, rfl, hlast, hfin⟩ := hout
          dsimp only at hr2
          cases hr2
          have hall : Paired (EvB H6) (us ++ [v]) evs := by
            rw [← hacc]
            exact Paired.app (Paired.mapP hev6 fun _ _ h => h.b) (.cons hlast.b .nil)
          refine ⟨_, rfl, .inl rfl, ?_⟩
          refine iB (fun hw => ⟨_, rfl, k fl _ H6 SS6 hfl6 hall⟩) fun hw => ⟨_, rfl, Nat.zero_le _, fun q hq => ?_⟩
          have hf : fin = true := by
            rcases hfin with h | h
            · exact h
            · rw [hw] at h; cases h
          subst hf
          have Eq := same_new (o := .lst []) hq
          have nfq : fl ≠ q := ne_of_none hfl6 hq
          refine ⟨fl, q, us ++ [v], rfl, rfl, nfq, SqL.of (Eq _ _ hfl6), SqL.of upd_same, _, rfl, ?_⟩
          refine iT (by simp) ?_
          obtain ⟨a2, wd, kq, x2, r2, rfl, ha2, _, ok2, yes2⟩ := hlast.same Eq
          refine ⟨_, rfl, _, rfl, _, _, _, _, rfl, rfl, SqL.of (Eq _ _ hfl6), atI_last us _, _, _, _, _, rfl, rfl, SqT.of ha2, (atI_nat (j := 2) rfl), ok2, ?_⟩
          rw [yes2]
          exact ⟨_, rfl, k fl _ _ (SS6.trans Eq) (Eq _ _ hfl6) (Paired.mapP hall fun _ _ h => h.same Eq)⟩
      obtain ⟨ck, hck⟩ := hCl.some
      obtain ⟨kk, hkk⟩ := hKp.some
      have nap : a ≠ pi := ne_of ha5 hPi (by intro z; cases z)
      by_cases hd : m.isWork
      · have hbk2 : m.isRow = false := by
          cases m with
          | row _ => exact hd.elim
          | _ => rfl
        have hmst : (if m.isRow = true then mst - 1 else mst) = mst := by rw [hbk2]; rfl
        rw [hmst] at hn
        have h1 : inS (.str m.word) ["row", "nothing"] = false := by
          cases m with
          | op o _ => cases o <;> rfl
          | say _ _ => rfl
          | lay _ _ => rfl
          | give _ _ => rfl
          | fetch _ _ _ => rfl
          | call _ _ _ _ => rfl
          | _ => exact hd.elim
        have h2 : inS (.str m.word) ["jump", "unless"] = false := by
          cases m with
          | op o _ => cases o <;> rfl
          | say _ _ => rfl
          | lay _ _ => rfl
          | give _ _ => rfl
          | fetch _ _ _ => rfl
          | call _ _ _ _ => rfl
          | _ => exact hd.elim
        have h3 : inS (.str m.word) ["push", "load"] = false := by
          cases m with
          | op o _ => cases o <;> rfl
          | say _ _ => rfl
          | lay _ _ => rfl
          | give _ _ => rfl
          | fetch _ _ _ => rfl
          | call _ _ _ _ => rfl
          | _ => exact hd.elim
        have h4 : decide (V.str m.word = V.str "store") = false := by
          cases m with
          | op o _ => cases o <;> rfl
          | say _ _ => rfl
          | lay _ _ => rfl
          | give _ _ => rfl
          | fetch _ _ _ => rfl
          | call _ _ _ _ => rfl
          | _ => exact hd.elim
        refine ⟨_, rfl, .inl rfl, iF h1 ⟨_, rfl, .inl rfl, iF h2 ⟨_, rfl, .inl rfl, iF h3 ⟨_, rfl, rfl, _, rfl, iF h4 ?_⟩⟩⟩⟩
        cases hstep : kstep M.rows s m with
        | none => rw [hstep] at hr2; cases hr2
        | some out =>
        have hmid : M.rows[m.k.toNat]? = some M.rows[m.k.toNat] := List.getElem?_eq_getElem hk1
        obtain ⟨vm, hvm, am, bm, pm, rfl, ham, hbm⟩ := paired_at hM.rows hmid
        have hbm5 : (M.rows[m.k.toNat]).aux H5 bm := by
          cases hx : M.rows[m.k.toNat] <;> rw [hx] at hbm <;> first | trivial | exact SS _ _ hbm
        have hki : atI vs0 m.k = some (.ref am) := by
          have := atI_nat hvm
          rwa [Int.toNat_of_nonneg hk0] at this
        refine ⟨_, rfl, _, rfl, _, _, _, _, rfl, rfl, SqT.of (SS _ _ hM.top), rfl, _, rfl, _, _, _, _, rfl, rfl, SqT.of (SS _ _ hM.rt), hki, _, rfl, _, rfl, a, am, pi, kp, m, M.rows[m.k.toNat], M.rows, s, out, B, rfl, ha5, ⟨am, bm, pm, rfl, SS _ _ ham, hbm5⟩, hmid, hd, hok, hPi, by omega, hKp, by omega, hbp, hstep, fun t H6 K6 hres => ?_⟩
        have K6' : Kp [pi, cl, kp, fl] H5 H6 := K6.mono (by simp)
        have hfl6 := K6 _ _ (by simp [npf.symm, nkf.symm]) hfl
        have hck6 := K6 _ _ (by simp [npc.symm, nck]) hck
        have hCl6 := hCl.at (hck6.trans hck.symm)
        refine ⟨_, rfl, Nat.zero_le _, fun q hq => ?_⟩
        have E7 := same_new (o := .tup []) hq
        have hfl7 := E7 _ _ hfl6
        obtain ⟨evs1, fin1, htold, hres⟩ : ∃ evs1 fin1, ToldAt H6 t evs1 fin1 ∧ ((∃ s', out = .next evs1 s' ∧ fin1 = false ∧ H6 pi = some (.lst (s'.pile.map V.int)) ∧ KeepsAt H6 kp s'.keeps (B + 1)) ∨ (out = .stop evs1 ∧ (fin1 = true ∨ ∃ c k, m = .give c k))) := by
          cases out with
          | next e s' => exact ⟨e, false, hres.1, .inl ⟨s', rfl, rfl, hres.2⟩⟩
          | stop e =>
            obtain ⟨f, h1, h2⟩ := hres
            exact ⟨e, f, h1, .inr ⟨rfl, h2⟩⟩
        rcases htold with ⟨rfl, rfl, ht⟩ | ⟨rfl, x, r, ht, hr, hx, hf⟩
        · refine ⟨t, q, [], rfl, rfl, SqT.of (E7 _ _ ht), SqT.of upd_same, _, rfl, iF rfl ?_⟩
          rcases hres with ⟨s', rfl, _, hP6, hK6⟩ | ⟨rfl, h⟩
          · refine hn _ _ ⟨.next [] s', _, _, _, _, [], hstep, rfl, rfl, K6'.trans (Kp.same E7), by rw [List.append_nil]; exact hfl7, by simp, ?_, E7 _ _ hP6, ?_, ?_, .nil⟩
            · rw [(kstep_pc hd hstep).1]; rfl
            · rw [(kstep_pc hd hstep).2]
              exact (hCl6.at ((E7 _ _ hck6).trans hck6.symm)).mono (by omega)
            · obtain ⟨kvs, h1, h2⟩ := hK6
              exact ⟨kvs, E7 _ _ h1, h2⟩
          · cases kstep_stop hstep
        · refine ⟨t, q, x :: r, rfl, rfl, SqT.of (E7 _ _ ht), SqT.of upd_same, _, rfl, iT rfl ?_⟩
          refine ⟨_, rfl, .inl ⟨rfl, _, SqL.of hfl7⟩, _, rfl, _, rfl, (by show 2 ≤ sizeLine; decide), fun t2 ht2 => ?_⟩
          have E8 := same_new (o := .tup [.str m.word, .int m.k]) ht2
          refine ⟨_, rfl, t2, t, _, _, rfl, rfl, SqT.of upd_same, SqT.of (E8 _ _ (E7 _ _ ht)), sz (by simp; omega), fun z => absurd z (by simp), fun _ z => absurd z (by simp), fun _ _ t3 ht3 => ?_⟩
          have E9 := same_new (o := .tup ([.str m.word, .int m.k] ++ x :: r)) ht3
          have S9 := E7.trans (E8.trans E9)
          have t39 := @upd_same (upd (upd H6 q (.tup [])) t2 (.tup [.str m.word, .int m.k])) t3 (.tup ([.str m.word, .int m.k] ++ x :: r))
          have nt3 : ∀ b o, H6 b = some o → t3 ≠ b := fun b o e => (ne_of_none (E8 _ _ (E7 _ _ e)) ht3).symm
          refine ⟨fl, _, _, rfl, rfl, S9 _ _ hfl6, szl (by omega), ?_⟩
          have K9 : Kp [pi, cl, kp, fl] H5 (upd (upd (upd (upd H6 q (.tup [])) t2 (.tup [.str m.word, .int m.k])) t3 (.tup ([.str m.word, .int m.k] ++ x :: r))) fl (.lst (us ++ [.ref t3]))) := K6'.trans ((Kp.same S9).trans (Kp.upd (by simp)))
          have hw : m.word ≠ "begin" := kword_ne m
          refine hn _ _ ⟨out, _, _, _, _, [.ref t3], hstep, rfl, rfl, K9, upd_same, by simp, ?_⟩
          have t3a := (upd_ne (o := .lst (us ++ [.ref t3])) (nt3 _ _ hfl6)).trans t39
          rcases hres with ⟨s', rfl, rfl, hP6, hK6⟩ | ⟨rfl, h⟩
          · obtain ⟨kk6, hkk6⟩ := hK6.some
            refine ⟨by rw [(kstep_pc hd hstep).1]; rfl, (upd_ne npf).trans (S9 _ _ hP6), ?_, hK6.at ((upd_ne nkf).trans ((S9 _ _ hkk6).trans hkk6.symm)), ?_⟩
            · rw [(kstep_pc hd hstep).2]
              exact (hCl6.at ((upd_ne ncf).trans ((S9 _ _ hck6).trans hck6.symm))).mono (by omega)
            exact .cons ⟨t3, m.word, _, x, r, rfl, by simp [nt3 _ _ hck6, nt3 _ _ hkk6, nt3 _ _ hfl6, nt3 _ _ hP6], t3a, .inl ⟨hx, hf⟩, hw⟩ .nil
          · refine ⟨.ref t3, fin1, rfl, rfl, ⟨t3, m.word, _, x, r, rfl, t3a, hw, .inl hx, hf⟩, ?_⟩
            rcases h with h | ⟨c, k2, rfl⟩
            · exact .inl h
            · exact .inr (by rfl)
      cases m with
      | row kx =>
        refine ⟨_, rfl, .inl rfl, iT (by rfl) ⟨_, rfl, _, rfl, rfl, .inr ⟨_, rfl, _, _, rfl, rfl, ?_⟩⟩⟩
        cases hpile : s.pile with
        | cons z zs =>
          rw [show kstep M.rows s (.row kx) = none by simp only [kstep, hpile]] at hr2
          cases hr2
        | nil =>
        refine ⟨_, rfl, Nat.zero_le _, fun q hq => ⟨pi, q, _, rfl, rfl, ne_of_none hPi hq, SqL.of (same_new (o := .lst []) hq _ _ hPi), SqL.of upd_same, _, rfl, iF (by rw [hpile]; rfl) ?_⟩⟩
        have Eq := same_new (o := .lst []) hq
        generalize upd H5 q (.lst []) = H5a at Eq ⊢
        refine ⟨_, rfl, .inl ⟨rfl, _, SqL.of (Eq _ _ hfl)⟩, fun pd hpd => ⟨upd_same, [(.inr "row", .str "begin")], rfl, (by show 1 ≤ 15; decide), pd, rfl, .inl ⟨_, .inl upd_same⟩, _, rfl, _, rfl, some (.str "begin"), .inl ⟨_, .inr "row", .inl upd_same, rfl, rfl⟩, ?_⟩⟩
        have Ed : Same H5a (upd (upd H5a pd (.dK [])) pd (.dK (mergeK [] [(.inr "row", .str "begin")]))) := fun b o e => by
          rw [upd_ne (ne_of_none e hpd), upd_ne (ne_of_none e hpd)]
          exact e
        have Eq := Eq.trans Ed
        generalize upd (upd H5a pd (.dK [])) pd (.dK (mergeK [] [(.inr "row", .str "begin")])) = H5b at Eq ⊢
        refine ⟨_, rfl, _, rfl, cl, _, rfl, Eq _ _ hck, fun d hd => ⟨by show 3 ≤ sizeLine; decide, fun t ht => ?_⟩⟩
        have E1 := same_new (o := .dK ck) hd
        have E2 := same_new (o := .tup [.str "begin", .int kx, .ref d]) ht
        have d2 := E2 _ _ (@upd_same H5b d (.dK ck))
        have t2 := @upd_same (upd H5b d (.dK ck)) t (.tup [.str "begin", .int kx, .ref d])
        have S6 := Eq.trans (E1.trans E2)
        have nd : ∀ b o, H5 b = some o → d ≠ b := fun b o e => (ne_of_none (Eq _ _ e) hd).symm
        have nt : ∀ b o, H5 b = some o → t ≠ b := fun b o e => (ne_of_none ((Eq.trans E1) _ _ e) ht).symm
        have fl6 := S6 _ _ hfl
        refine ⟨fl, _, _, rfl, rfl, fl6, szl (by omega), ?_⟩
        refine hn _ _ ⟨.next [some s.cells] { s with pc := s.pc + 1 }, _, _, _, _, [.ref t], by simp only [kstep, hpile], rfl, rfl, (Kp.same S6).trans (Kp.upd (by simp)), upd_same, by simp, rfl, (upd_ne npf).trans (S6 _ _ hPi), ?_, ?_, ?_⟩
        · exact (hCl.at ((upd_ne (ncf)).trans (S6 _ _ hck |>.trans hck.symm))).mono (by omega)
        · exact (hKp.at ((upd_ne (nkf)).trans (S6 _ _ hkk |>.trans hkk.symm))).mono (by omega)
        · refine .cons ⟨t, _, _, _, _, rfl, by simp [nt _ _ hck, nt _ _ hkk, nt _ _ hfl, nt _ _ hPi], (upd_ne (nt _ _ hfl)).trans t2, .inr ⟨d, ck, by simp [nd _ _ hck, nd _ _ hkk, nd _ _ hfl, nd _ _ hPi], rfl, (upd_ne (nd _ _ hfl)).trans d2⟩, rfl, d, B, rfl, ?_⟩ .nil
          obtain ⟨ck', h1, h2⟩ := hCl
          rw [hck] at h1
          cases h1
          exact ⟨ck, (upd_ne (nd _ _ hfl)).trans d2, h2⟩
      | nothing kx =>
        refine ⟨_, rfl, .inl rfl, iT (by rfl) ⟨_, rfl, _, rfl, rfl, .inr ⟨_, rfl, _, _, rfl, rfl, ?_⟩⟩⟩
        cases hpile : s.pile with
        | cons z zs =>
          rw [show kstep M.rows s (.nothing kx) = none by simp only [kstep, hpile]] at hr2
          cases hr2
        | nil =>
        refine ⟨_, rfl, Nat.zero_le _, fun q hq => ⟨pi, q, _, rfl, rfl, ne_of_none hPi hq, SqL.of (same_new (o := .lst []) hq _ _ hPi), SqL.of upd_same, _, rfl, iF (by rw [hpile]; rfl) ?_⟩⟩
        have Eq := same_new (o := .lst []) hq
        generalize upd H5 q (.lst []) = H5a at Eq ⊢
        refine ⟨_, rfl, .inl ⟨rfl, _, SqL.of (Eq _ _ hfl)⟩, fun pd hpd => ⟨upd_same, [(.inr "row", .str "begin")], rfl, (by show 1 ≤ 15; decide), pd, rfl, .inl ⟨_, .inl upd_same⟩, _, rfl, _, rfl, none, .inl ⟨_, .inr "nothing", .inl upd_same, rfl, rfl⟩, ?_⟩⟩
        have Ed : Same H5a (upd (upd H5a pd (.dK [])) pd (.dK (mergeK [] [(.inr "row", .str "begin")]))) := fun b o e => by
          rw [upd_ne (ne_of_none e hpd), upd_ne (ne_of_none e hpd)]
          exact e
        have Eq := Eq.trans Ed
        generalize upd (upd H5a pd (.dK [])) pd (.dK (mergeK [] [(.inr "row", .str "begin")])) = H5b at Eq ⊢
        refine ⟨_, rfl, _, rfl, cl, _, rfl, Eq _ _ hck, fun d hd => ⟨by show 3 ≤ sizeLine; decide, fun t ht => ?_⟩⟩
        have E1 := same_new (o := .dK ck) hd
        have E2 := same_new (o := .tup [.str "nothing", .int kx, .ref d]) ht
        have d2 := E2 _ _ (@upd_same H5b d (.dK ck))
        have t2 := @upd_same (upd H5b d (.dK ck)) t (.tup [.str "nothing", .int kx, .ref d])
        have S6 := Eq.trans (E1.trans E2)
        have nd : ∀ b o, H5 b = some o → d ≠ b := fun b o e => (ne_of_none (Eq _ _ e) hd).symm
        have nt : ∀ b o, H5 b = some o → t ≠ b := fun b o e => (ne_of_none ((Eq.trans E1) _ _ e) ht).symm
        have fl6 := S6 _ _ hfl
        refine ⟨fl, _, _, rfl, rfl, fl6, szl (by omega), ?_⟩
        refine hn _ _ ⟨.stop [none], _, _, _, _, [.ref t], by simp only [kstep, hpile], (by show mst - 0 = mst; omega), rfl, (Kp.same S6).trans (Kp.upd (by simp)), upd_same, by simp, .ref t, false, rfl, rfl, ?_, .inr (by rfl)⟩
        exact ⟨t, _, _, _, _, rfl, (upd_ne (nt _ _ hfl)).trans t2, by decide, .inr ⟨d, ck, rfl, (upd_ne (nd _ _ hfl)).trans d2⟩, rfl⟩
      | jump at_ kx =>
        refine ⟨_, rfl, .inl rfl, iF (by rfl) ⟨_, rfl, .inl rfl, iT (by rfl) ⟨_, rfl, rfl, _, rfl, iT (by rfl) (iT rfl ⟨_, rfl, _, _, _, _, rfl, rfl, SqT.of ha5, rfl, ?_⟩)⟩⟩⟩
        by_cases h0 : 0 ≤ at_
        · exact hn _ _ ⟨.next [] { s with pc := at_.toNat }, _, _, _, _, [], (by simp only [kstep, if_pos h0]), rfl, rfl, Kp.refl _ _, by rw [List.append_nil]; exact hfl, by simp, (Int.toNat_of_nonneg h0).symm, hPi, hCl.mono (by omega), hKp.mono (by omega), .nil⟩
        · rw [show kstep M.rows s (.jump at_ kx) = none by simp only [kstep, if_neg h0]] at hr2
          cases hr2
      | unl at_ kx =>
        refine ⟨_, rfl, .inl rfl, iF (by rfl) ⟨_, rfl, .inl rfl, iT (by rfl) ⟨_, rfl, rfl, _, rfl, iF (by rfl) ?_⟩⟩⟩
        cases e : popped s.pile with
        | none =>
          rw [show kstep M.rows s (.unl at_ kx) = none by simp only [kstep, e]] at hr2
          cases hr2
        | some pv1 =>
        obtain ⟨p, v⟩ := pv1
        by_cases h0 : 0 ≤ at_
        · have ep := popped_eq e
          have hPi' := hPi
          rw [ep] at hPi'
          have nap2 := nap
          refine ⟨_, rfl, .inl ⟨rfl, _, SqL.of hPi'⟩, pi, _, _, rfl, rfl, hPi', pop_at _ v, ?_⟩
          rw [pop_drop]
          refine ⟨rfl, _, rfl, ?_⟩
          have ha6 := (upd_ne (o := .lst (p.map V.int)) nap).trans ha5
          have fin : ∀ pc : Nat, pc = (if v = 0 then at_.toNat else s.pc + 1) → nx [some (.ref ra), some (.ref md), some (.ref pl), some (.int mst), some (.int kx), some (.ref pi), some (.ref cl), some (.ref kp), some (.ref fl), some (.int (pc : Int)), some (.ref a), some (.str (KR.unl at_ kx).word), x12] (upd H5 pi (.lst (p.map V.int))) := fun pc hpc => by
            refine hn _ _ ⟨.next [] { s with pc := pc, pile := p }, _, _, _, _, [], (by simp only [kstep, e, if_pos h0, hpc]), rfl, rfl, Kp.upd (by simp), by rw [List.append_nil, upd_ne npf.symm]; exact hfl, by simp, rfl, upd_same, (hCl.at (upd_ne npc.symm)).mono (by omega), (hKp.at (upd_ne npk.symm)).mono (by omega), .nil⟩
          refine iB (fun hz => ?_) (fun hz => ?_)
          · have hv0 : v = 0 := by simpa using hz
            refine ⟨_, rfl, _, _, _, _, rfl, rfl, SqT.of ha6, rfl, ?_⟩
            have := fin at_.toNat (by rw [if_pos hv0])
            rw [Int.toNat_of_nonneg h0] at this
            exact this
          · have hv0 : v ≠ 0 := by simpa using hz
            refine ⟨_, rfl, ?_⟩
            exact fin (s.pc + 1) (by rw [if_neg hv0])
        · rw [show kstep M.rows s (.unl at_ kx) = none by simp only [kstep, e, if_neg h0]] at hr2
          cases hr2
      | push z kx =>
        refine ⟨_, rfl, .inl rfl, iF (by rfl) ⟨_, rfl, .inl rfl, iF (by rfl) ⟨_, rfl, .inl rfl, iT (by rfl) ?_⟩⟩⟩
        refine ⟨_, rfl, .inl ⟨rfl, _, SqL.of hPi⟩, _, rfl, rfl, _, rfl, iT (by rfl) ⟨_, rfl, _, _, _, _, rfl, rfl, SqT.of ha5, rfl, pi, _, _, rfl, rfl, hPi, by rw [List.length_map]; exact szl (by omega), ?_⟩⟩
        exact hn _ _ ⟨.next [] { s with pc := s.pc + 1, pile := s.pile ++ [z] }, _, _, _, _, [], rfl, rfl, rfl, Kp.upd (by simp), by rw [List.append_nil, upd_ne npf.symm]; exact hfl, by simp, rfl, by rw [upd_same, List.map_append]; rfl, (hCl.at (upd_ne npc.symm)).mono (by omega), (hKp.at (upd_ne npk.symm)).mono (by omega), .nil⟩
      | load c kx =>
        refine ⟨_, rfl, .inl rfl, iF (by rfl) ⟨_, rfl, .inl rfl, iF (by rfl) ⟨_, rfl, .inl rfl, iT (by rfl) ?_⟩⟩⟩
        cases e : s.cells c with
        | none =>
          rw [show kstep M.rows s (.load c kx) = none by simp only [kstep, e]] at hr2
          cases hr2
        | some z =>
        refine ⟨_, rfl, .inl ⟨rfl, _, SqL.of hPi⟩, _, rfl, rfl, _, rfl, iF (by rfl) ⟨_, rfl, _, rfl, _, _, _, _, rfl, rfl, SqT.of ha5, rfl, cl, _, rfl, hCl.get e, pi, _, _, rfl, rfl, hPi, by rw [List.length_map]; exact szl (by omega), ?_⟩⟩
        exact hn _ _ ⟨.next [] { s with pc := s.pc + 1, pile := s.pile ++ [z] }, _, _, _, _, [], (by simp only [kstep, e]), rfl, rfl, Kp.upd (by simp), by rw [List.append_nil, upd_ne npf.symm]; exact hfl, by simp, rfl, by rw [upd_same, List.map_append]; rfl, (hCl.at (upd_ne npc.symm)).mono (by omega), (hKp.at (upd_ne npk.symm)).mono (by omega), .nil⟩
      | store c kx =>
        refine ⟨_, rfl, .inl rfl, iF (by rfl) ⟨_, rfl, .inl rfl, iF (by rfl) ⟨_, rfl, .inl rfl, iF (by rfl) ⟨_, rfl, rfl, _, rfl, iT (by rfl) ?_⟩⟩⟩⟩
        cases e : popped s.pile with
        | none =>
          rw [show kstep M.rows s (.store c kx) = none by simp only [kstep, e]] at hr2
          cases hr2
        | some pv1 =>
        obtain ⟨p, v⟩ := pv1
        have ep := popped_eq e
        have hPi' := hPi
        rw [ep] at hPi'
        refine ⟨_, rfl, .inl ⟨rfl, _, SqL.of hPi'⟩, pi, _, _, rfl, rfl, hPi', pop_at _ v, ?_⟩
        rw [pop_drop]
        have ha6 := (upd_ne (o := .lst (p.map V.int)) nap).trans ha5
        have hCl6 := hCl.at (upd_ne (o := .lst (p.map V.int)) npc.symm)
        obtain ⟨H7, hp, hC7, o, rfl⟩ := hCl6.put c v (by omega)
        refine ⟨_, rfl, _, rfl, _, _, _, _, rfl, rfl, SqT.of ha6, rfl, cl, _, rfl, hp, ?_⟩
        refine hn _ _ ⟨.next [] { s with pc := s.pc + 1, pile := p, cells := s.cells.set c v }, _, _, _, _, [], (by simp only [kstep, e]), rfl, rfl, (Kp.upd (by simp)).trans (Kp.upd (by simp)), by rw [List.append_nil, upd_ne ncf.symm, upd_ne npf.symm]; exact hfl, by simp, rfl, by rw [upd_ne npc, upd_same], hC7, (hKp.at ((upd_ne nck.symm).trans (upd_ne npk.symm))).mono (by omega), .nil⟩
      | _ => exact absurd trivial hd
end
end K48
set_option maxHeartbeats 4000000
set_option linter.all false
/-! own rules: enumerate of a tuple -/
namespace K48
open PySem PySem.Spec PyProof.Rows L2
/-- enumerate(t) makes an iterator of the tuple t and its own object -/
theorem enumT_new (t : Addr) (items : Array Value) :
    Meets (Builtin.«enumerate.__new__» ⟨[.type "enumerate", .ref t], []⟩) (fun _ R s => s.heap.IsTuple t items ∧
      R (.ok (.ret (.ref (s.heap.push { cls := .type "tuple_iterator", data := .fields #[.ref t, .int 0 0] }).objs.size)))
        { s with heap := (s.heap.push { cls := .type "tuple_iterator", data := .fields #[.ref t, .int 0 0] }).push { cls := .type "enumerate", data := .fields #[.none, .bool false, .ref s.heap.objs.size, rawInt 0, .none, .none] } }) := by
  refine .of_wp fun prog w A R s h => ?_
  obtain ⟨hp, g, d, tk, os⟩ := s
  obtain ⟨ht, h⟩ := h
  have sub := PySem.sub_enumerate
  have go : ∀ {A' : Around} {E : Value → Shared → Prop} {Q : Value → Shared → Prop}, Q (.ref hp.objs.size) ⟨hp.push { cls := .type "tuple_iterator", data := .fields #[.ref t, .int 0 0] }, g, d, tk, os⟩ →
      wpAny (model prog w) A' (pyIter (.ref t)) Q E ⟨hp, g, d, tk, os⟩ := fun q => (begins_tuple t items).iter prog w _ _ ⟨hp, g, d, tk, os⟩ _ ht q
  wp_walk using go
  refine wpAny_stack_any fun st => wpAny_pure ?_
  split
  · rename_i c _ _ _ _ _
    cases (c == Value.type "enumerate") <;> (wp_walk using go; exact ⟨_, rfl, h⟩)
  · wp_walk using go
    exact ⟨_, rfl, h⟩
/-- the call: both new objects told -/
theorem enumT_call {prog : Program} {w : World} {A : Around} {E : Value → Shared → Prop} {s : Shared} {t : Addr} {items : Array Value} {Q : Value → Shared → Prop} (ht : s.heap.IsTuple t items)
    (h : ∀ h', IsEnum h' (s.heap.objs.size + 1) s.heap.objs.size 0 .none → h'.IsTupleIter s.heap.objs.size t 0 →
      (∀ b o, s.heap.get? b = some o → h'.get? b = some o) → Q (.ref (s.heap.objs.size + 1)) { s with heap := h' }) :
    wpAny (model prog w) A (call (.type "enumerate") [.ref t]) Q E s := by
  refine callType_new PySem.F.called_enumerate (by decide) (PySem.F.typeCall_enumerate_1 _) (PySem.F.newCall_enumerate_1 _) (fun z => PySem.F.args_object_init_2 z _) PySem.F.entry_enumerate_new (enumT_new t items) ⟨ht, ?_⟩
  let oI : Obj := { cls := .type "tuple_iterator", data := .fields #[.ref t, .int 0 0] }
  let oE : Obj := { cls := .type "enumerate", data := .fields #[.none, .bool false, .ref s.heap.objs.size, rawInt 0, .none, .none] }
  have z1 : (s.heap.push oI).objs.size = s.heap.objs.size + 1 := Heap.size_push ..
  have e1 : ((s.heap.push oI).push oE).get? (s.heap.objs.size + 1) = some oE := by
    rw [← z1]
    exact Heap.get?_push_size _ rfl
  show _ ∧ _
  rw [show (s.heap.push { cls := .type "tuple_iterator", data := .fields #[.ref t, .int 0 0] }).objs.size = s.heap.objs.size + 1 from z1]
  exact ⟨⟨oE, e1, rfl⟩, h _ e1 ⟨oI, Heap.get?_push_of_some _ (Heap.get?_push_size _ rfl), rfl, rfl⟩ fun b o x => Heap.get?_push_of_some _ (Heap.get?_push_of_some _ x)⟩
/-- the tuple at a, each item with its number in a new pair -/
def ItN (K : PySem.W.Frag) (a : Addr) : It :=
  { go := fun i H => ∃ (xs : List V) (x : V), SqT K H a xs ∧ xs[i]? = some x
    yld := fun i H v H' => ∃ T x, v = .ref T ∧ H T = none ∧ H' = upd H T (.tup [.int (i : Nat), x]) ∧ ∀ xs, SqT K H a xs → xs[i]? = some x
    stop := fun i H => ∃ xs : List V, SqT K H a xs ∧ xs.length = i }
theorem walk_numT {K : PySem.W.Frag} {a : Addr} {xs : List V} : Walk (ItN K a) xs.length (fun H => SqT K H a xs) (YPair (fun i => some (.int (i : Nat))) (fun i => xs[i]?)) where
  goes := fun i _ hi q => ⟨xs, xs[i], q, List.getElem?_eq_getElem hi⟩
  stops := fun _ q => ⟨xs, q, rfl⟩
  yields := fun i H v H' _ q y => by
    obtain ⟨T, x, h1, h2, h3, h4⟩ := y
    exact ⟨T, .int (i : Nat), x, h1, h2, h3, rfl, h4 xs q⟩
theorem tupIter_ne {h : Heap} {it t : Addr} {i : Nat} {items : Array Value} (x : h.IsTupleIter it t i) (y : h.IsTuple t items) : t ≠ it := by
  rintro rfl
  obtain ⟨o, e, c, d⟩ := x
  obtain ⟨o2, e2, c2, _, d2⟩ := y
  rw [e] at e2
  cases e2
  rw [d] at d2
  cases d2
theorem turn_numT {P : Program} {w : World} {K : PySem.W.Frag} {elts : List Expr} {kk : Nat} {tpos : Pos} (a e it : Addr) :
    Turn P w K (.Tuple elts kk tpos) (ItN K a) [e, it] e (fun i h => (∃ old, IsEnum h e it ((i : Nat) : Int) old) ∧ h.IsTupleIter it a i ∧ e ≠ it) := by
  have two : ∀ b, b ∈ [e, it] → b = e ∨ b = it := fun b hb => by simpa using hb
  refine { mem := by simp, obj := ?_, keep := ?_, item := ?_, done := ?_, self := ?_ }
  · rintro i h ⟨⟨old, he⟩, ⟨o, ho, _, hd⟩, _⟩ b hb
    rcases two b hb with rfl | rfl
    · exact ⟨_, he, fun v q => by cases q⟩
    · exact ⟨o, ho, fun v q => by rw [hd] at q; cases q⟩
  · rintro i h h' ⟨⟨old, he⟩, hi, hne⟩ k
    exact ⟨⟨old, k e (by simp) _ he⟩, hi.at fun o q => k it (by simp) o q, hne⟩
  · intro X hP hw hK hc i pins s σ H E I hf st hg
    subst hP hw hK
    obtain ⟨⟨old, he⟩, hit, hne⟩ := st
    obtain ⟨xs, x, hq, hx⟩ := hg
    obtain ⟨its, rv, p, hz⟩ := I.tuple hq
    obtain ⟨u, hu, ru⟩ := rv.get hx
    have p' : s.heap.IsTuple a its.toArray := p
    have nai := tupIter_ne hit p'
    have hlt : i < its.toArray.size := by
      have := (List.getElem?_eq_some_iff.mp hu).1
      simpa using this
    have le : e < s.heap.objs.size := Heap.lt_size he
    have li : it < s.heap.objs.size := by
      obtain ⟨_, q, _⟩ := hit
      exact Heap.lt_size q
    have nae : e ≠ a := by
      rintro rfl
      obtain ⟨o2, e2, _, _, d2⟩ := p'
      have he' : s.heap.get? e = some _ := he
      rw [he'] at e2
      cases e2
      cases d2
    have D := Draws.tuple (prog := X.prog) (w := X.w) (A := X.A.in1) (show X.A.in1.handled = none from I.ok.hd hc) it a nai its.toArray
    refine wpAny_pyNext_enum_itemD D he ⟨hit, p'⟩ hlt hne (by simp [nae, hne]) fun x' h' tk hx' ho st' hT hsz hk => ?_
    have ex : x' = u := by
      rw [List.getElem?_toArray, hu] at hx'
      exact (Option.some.inj hx').symm
    subst ex
    refine ⟨_, rfl, wpAny_letOwnedTupleGo_enum (s := { s with heap := h', toks := tk + 1 }) ho fun h2 he2 sb => ?_⟩
    have hT2 : h2.get? s.heap.objs.size = some { cls := .type "tuple", data := .seq #[.int i tk, x'] } := (sb.2 _ (Nat.ne_of_gt le)).trans hT
    have new : ObjOk X.prog X.w (upd H s.heap.objs.size (.tup [.int (i : Nat), x])) h2 s.heap.objs.size (.tup [.int (i : Nat), x]) :=
      ⟨by show 2 ≤ sizeLine; decide, [.int i tk, x'], .cons ⟨_, rfl⟩ (.cons ru .nil), ⟨_, hT2, rfl, _, rfl⟩⟩
    have stays : ∀ b o, b ∉ [e, it] → s.heap.get? b = some o → h2.get? b = some o := fun b o nb q => by
      have n1 : b ≠ e := fun z => nb (by simp [z])
      have n2 : b ≠ it := fun z => nb (by simp [z])
      exact (sb.2 b n1).trans (hk b o n1 n2 q)
    have I1 : Inv X pins σ (upd H s.heap.objs.size (.tup [.int (i : Nat), x])) { s with heap := h2, toks := tk + 1 } :=
      I.turnedNew (ch := [e, it]) (fun b o nb q => stays b o nb q) hf (Nat.le_refl _) new
    refine ⟨.ref s.heap.objs.size, _, I1, rfl, ⟨_, x, rfl, I.hok.fresh (Nat.le_refl _), rfl, fun ys hy => by rw [I.tuple_inj hy hq]; exact hx⟩, ⟨⟨x', ?_⟩, st'.1.at fun o q => (sb.2 it (Ne.symm hne)).trans q, hne⟩, fun b hb => ?_⟩
    · rw [show ((i + 1 : Nat) : Int) = (i : Int) + 1 by omega]
      exact he2
    · have lb : b < s.heap.objs.size := by
        rcases two b hb with rfl | rfl
        · exact le
        · exact li
      rw [upd_ne (Nat.ne_of_lt lb)]
      exact (hf b hb).1
  · intro X hP hw hK hc i pins s σ H E I hf st hg
    subst hP hw hK
    obtain ⟨⟨old, he⟩, hit, hne⟩ := st
    obtain ⟨xs, hq, hx⟩ := hg
    obtain ⟨its, rv, p, hz⟩ := I.tuple hq
    have p' : s.heap.IsTuple a its.toArray := p
    obtain ⟨f0, f1, f2, f3, f4, f5⟩ := hf it (by simp)
    have nai := tupIter_ne hit p'
    have D := Draws.tuple (prog := X.prog) (w := X.w) (A := X.A.in1) (show X.A.in1.handled = none from I.ok.hd hc) it a nai its.toArray
    have ei : i = its.toArray.size := by
      rw [← hx, rv.length]
      simp
    subst ei
    exact wpAny_pyNext_enum_endD D he ⟨hit, p'⟩ fun h' eb => ⟨rfl, I.turned (t' := s.toks) (fun b o hb q => eb b o hb q) f0 f1 f3 f4 f5⟩
  · rintro A i s Q E ⟨⟨_, he⟩, _⟩ h
    exact wpAny_pyIter_enum he h
def iNumT (K : PySem.W.Frag) (ta : TA) : TI := fun (σ : L2.St) H R => ta σ H fun vs H1 => ∃ a xs, vs = [.ref a] ∧ SqT K H1 a xs ∧ R (ItN K a) H1
/-- for .., .. in enumerate(t) -/
theorem pi_enumT {X : Cx} {e : Expr} {ta : TA} {p pos tpos : Pos} {elts : List Expr} {kk : Nat} (hg : Gl X "enumerate") (hm : X.mg "enumerate" = none) (ha : PA X [e] ta)
    (hs : starEach [e] X.env = [(false, eval e X.env)] := by rfl) : PI X (.Tuple elts kk tpos) (.Call (.Name "enumerate" p) [e] [] pos) (iNumT X.K ta) := by
  constructor
  intro pins s σ H R I h
  refine Call_ (ld_blt I hg hm boot_enumerate (PyProof.Rows.callWith_type1 (thn (ha.run pos pins s σ H _ I h) fun us s1 h1 => ?_) hs rfl))
  obtain ⟨vs, H1, I1, r1, a, xs, rfl, hq, q⟩ := h1
  obtain rfl := Vals.ref1 r1
  obtain ⟨its, rv, tp, hz⟩ := I1.tuple hq
  refine enumT_call (show s1.heap.IsTuple a its.toArray from tp) fun h' he hit hk => wpAny_pyIter_enum he ?_
  have I2 : Inv X pins σ H1 { s1 with heap := h' } := I1.kept (t' := s1.toks) hk
  refine ⟨s1.heap.objs.size + 1, [s1.heap.objs.size + 1, s1.heap.objs.size], _, _, H1, rfl, I2, turn_numT a (s1.heap.objs.size + 1) s1.heap.objs.size, ⟨⟨.none, he⟩, hit, Nat.succ_ne_self _⟩, fun b hb => ?_, q⟩
  have lb : s1.heap.objs.size ≤ b := by
    have h2 : b = s1.heap.objs.size + 1 ∨ b = s1.heap.objs.size := by simpa using hb
    rcases h2 with h2 | h2 <;> rw [h2]
    · exact Nat.le_succ _
    · exact Nat.le_refl _
  exact I1.fpOk lb (I1.hok.fresh lb)
/-- a dict comprehension over a walk: Pv by the turn and the heap (the new dict at D within) -/
theorem dc_it {J : It} {n : Nat} {G : Hp → Prop} {Y : Nat → Hp → V → Hp → Prop} (w : Walk J n G Y) {g : TG} {tt : TT} {tk tv : TE} {vs : List Nat} {σ : L2.St} {H1 : Hp} {D : Addr} {Qd : Hp → Prop} (Pv : Nat → Hp → Prop)
    (h0 : Pv 0 (upd H1 D (.dK []))) (hG : ∀ i H, i ≤ n → Pv i H → G H)
    (hs : ∀ i x H H', i < n → Pv i H → Y i H x H' → g x (wipe σ vs) H' fun σ2 H2 => wipe σ2 vs = wipe σ vs ∧ tt σ2 H2 fun b H3 =>
      if b = true then tk σ2 H3 fun y H4 => tv σ2 H4 fun z H5 => ∃ kvs k, y = kV k ∧ H5 D = some (.dK kvs) ∧ kvs.length < sizeLine ∧ Pv (i + 1) (upd H5 D (.dK (putK kvs k z))) else Pv (i + 1) H3)
    (hd : ∀ H, Pv n H → Qd H) :
    ∃ W : Nat → Nat → Hp → Prop, (∃ m, W 0 m (upd H1 D (.dK []))) ∧ ∀ i m H, W i m H →
      (J.stop i H ∧ Qd H) ∨ (J.go i H ∧ ∃ Nx : Hp → Prop, (∀ H', Nx H' → ∃ m', m' < m ∧ W (i + 1) m' H') ∧ ∀ x H', J.yld i H x H' → g x (wipe σ vs) H' fun σ2 H2 => wipe σ2 vs = wipe σ vs ∧ tt σ2 H2 fun b H3 =>
        if b = true then tk σ2 H3 fun y H4 => tv σ2 H4 fun z H5 => ∃ kvs k, y = kV k ∧ H5 D = some (.dK kvs) ∧ kvs.length < sizeLine ∧ Nx (upd H5 D (.dK (putK kvs k z))) else Nx H3) := by
  refine ⟨fun i m H => m + i = n ∧ Pv i H, ⟨n, by simp, h0⟩, ?_⟩
  rintro i m H ⟨hm, p⟩
  have hi : i ≤ n := by omega
  cases m with
  | zero =>
    have e : i = n := by omega
    subst e
    exact .inl ⟨w.stops H (hG i H hi p), hd H p⟩
  | succ m =>
    have hlt : i < n := by omega
    exact .inr ⟨w.goes i H hlt (hG i H hi p), Pv (i + 1), fun H' p' => ⟨m, Nat.lt_succ_self m, by omega, p'⟩, fun x H' y => hs i x H H' hlt p (w.yields i H x H' hlt (hG i H hi p) y)⟩
section
variable {X : Cx}
theorem pg_tupK {K : PySem.W.Frag} {es : List Expr} {k : Nat} {t : TGs} {n : Nat} {pos : Pos} (hK : X.K = K) (hc : X.calm = true) (h : PGs X es t)
    (hn : (assignEach es X.env).length = n := by rfl) (hst : (assignEach es X.env).findIdx? (·.1) = none := by rfl) : PG X (.Tuple es k pos) (gTup K n t) := by
  subst hK
  exact pg_tup hc h hn hst
theorem swd_true {kx vx : Expr} {gs : List Comprehension} {scope : Scope} {pos py : Pos} {y : Str} {l : Nat} {env : Env} (hk : env.scope.kind = .function) (hy : env.scope.names.lookup y = some .local) (hl : (py.line == pos.line) = true)
    (ha : (scope.names.any fun (n, k) => n == y && (k == .local || k == .cell)) = false) : swapsWith (.DictComp kx vx gs scope pos) (some (.Name y py)) l env = pure true := by
  have h1 : env.kindOf y = some .local := hy
  have h2 : env.blockKind = .function := by
    unfold Env.blockKind
    rw [hk]
    rfl
  simp only [swapsWith, h2, h1, ha, Expr.pos, hl]
  rfl
/-- name = {..} on one line, the name a local -/
theorem ps_setDc {i : Nat} {y : Str} {py : Pos} {kx vx tg iter : Expr} {ifs : List Expr} {scope : Scope} {own : List (Str × Nat)} {pos spos : Pos} {wi : TI} {g : TG} {tt : TT} {tk tv : TE} (hc : X.calm = true) (hN : X.N.Nodup)
    (hy : X.N[i]? = some y) (hyl : X.env.scope.names.lookup y = some .local) (hsw : swapsWith (.DictComp kx vx [⟨tg, iter, ifs, 0⟩] scope pos) (some (.Name y py)) spos.line X.env = pure true)
    (hi : PI X tg iter wi) (ok : BlkOk X.N X.env.scope scope own)
    (hg : ∀ (s : Shared) (H : Hp) (C : Addr) (cl : List (Str × Addr)) (fp : List Addr), PG (X.blk s H scope (compEnvC scope cl C X.env) fp) tg g)
    (ht : ∀ (s : Shared) (H : Hp) (C : Addr) (cl : List (Str × Addr)) (fp : List Addr), PTs (X.blk s H scope (compEnvC scope cl C X.env) fp) ifs tt)
    (hk : ∀ (s : Shared) (H : Hp) (C : Addr) (cl : List (Str × Addr)) (fp : List Addr), PE (X.blk s H scope (compEnvC scope cl C X.env) fp) kx tk)
    (he : ∀ (s : Shared) (H : Hp) (C : Addr) (cl : List (Str × Addr)) (fp : List Addr), PE (X.blk s H scope (compEnvC scope cl C X.env) fp) vx tv)
    (hs : ∀ x, foldedSetIterable iter X.env x = pure x := by intro _; rfl) :
    PS X (.Assign [.Name y py] (.DictComp kx vx [⟨tg, iter, ifs, 0⟩] scope pos) spos) (tAsg (tDc wi g tt tk tv (own.map (·.2))) (gName i)) := by
  constructor
  intro pins s σ H D I h
  have h : tDc wi g tt tk tv (own.map (·.2)) σ H (fun x H1 => gName i x σ H1 D.nx) := h
  rw [exec_Assign_Name_used _ _ _ _ hsw]
  refine wpAny_bind (wpAny_standAt (wpAny_bind ?_))
  show wpAny _ X.A (do let _ ← comprehension (.DictComp kx vx [⟨tg, iter, ifs, 0⟩] scope pos) scope X.env (firstIterPos [⟨tg, iter, ifs, 0⟩] pos) newDict false (eval iter X.env) (some (assign (.Name y py) X.env))) _ _ s
  refine wpAny_bind (thn (dc_core (Qf := fun _ s' => SP X pins D .next s') hc hN I hi ok hg ht hk he hs h fun L C s' m H' I' q hn f => ?_) fun _ s' hq => wpAny_pure (wpAny_pure hq))
  obtain ⟨f0, f1, f2, f3, f4, f5⟩ := f
  show wpAny _ _ (assign (.Name y py) X.env (.ref L)) _ _ _
  refine wpAny_assign_Name (store_ok2 (v := V.ref L) I' hN hy (.inl hyl) rfl (fun s2 I2 hst => ?_) (.inr hyl))
  obtain ⟨a, sb, ha⟩ := hst
  have nCa : C ≠ a := by
    rcases ha with z | z
    · rw [z]
      exact f1
    · exact fun e => f4 y a z e.symm
  refine ⟨m, hn.sameBut sb nCa, fun h3 sb3 => ⟨_, H', I2.turned (t' := s2.toks) (fun b o nb e => ?_) f0 f1 f3 f4 f5, q⟩⟩
  exact (sb3.2 b nb).trans e
end
end K48
set_option maxHeartbeats 8000000
set_option linter.all false
/-! behind_of -/
namespace K48
open PySem L2
/-- the rows that may come next -/
def nexts (rows : List MR) (i : Nat) : List Nat := match rows[i]? with
  | some (.go k) => (spotOf rows k).toList
  | some (.unl _ k) => (i + 1) :: (spotOf rows k).toList
  | some (.give _) => []
  | some .nothing => []
  | some _ => [i + 1]
  | none => []
def TargetsOk (rows : List MR) : Prop := ∀ m ∈ rows, match m with
  | .go k => ∃ p, spotOf rows k = some p
  | .unl _ k => ∃ p, spotOf rows k = some p
  | _ => True
/-- lists of row numbers, in the heap -/
def NumsAt (H : Hp) (bl : Addr) (rows : List MR) (n : Nat) : Prop := ∃ as : List Addr, H bl = some (.lst (as.map V.ref)) ∧ as.length = n ∧
  ∀ (i : Nat) (a : Addr), as[i]? = some a → H a = some (.lst ((nexts rows i).map fun (j : Nat) => V.int (j : Int)))
theorem NumsAt.mono {H H' : Hp} {bl : Addr} {rows : List MR} {n : Nat} (h : NumsAt H bl rows n) (s : Same H H') : NumsAt H' bl rows n := by
  obtain ⟨as, h1, h2, h3⟩ := h
  exact ⟨as, s _ _ h1, h2, fun i a e => s _ _ (h3 i a e)⟩
section
variable {P : Program} {w : World} {K : PySem.W.Frag} {mg : Str → Option Value} {base : Heap} {aO aL : Addr}
def spBehind : Sp := fun vs H Q _ => ∃ (rt : Addr) (vs0 : List V) (rows : List MR), vs = [.ref rt] ∧ H rt = some (.tup vs0) ∧ Paired (RowV H) vs0 rows ∧ rows.length ≤ 700 ∧ LabUniq rows ∧ TargetsOk rows ∧
  ∀ (bl : Addr) (H' : Hp), Same H H' → NumsAt H' bl rows rows.length → Q (.ref bl) H'
theorem scBehind : FnScope ["rows", "spots", "found", "number", "row", "some"] ["rows"] (defScope (topS 5)) := ⟨rfl, rfl, rfl, by decide +kernel, rfl, by decide +kernel, by decide +kernel⟩
theorem fn_behind {f : Addr} {fd : FuncData} (F : Fun K "behind_of" "behind_of" (topS 5) f fd) (T : Blt K mg aO aL) :
    FnOk P w K mg base CX0 1 f fd ["rows"] spBehind := by
  have sc := scBehind
  refine F.ok sc (fun vs H Q E h => ?_) (fun cdv A outer s0 H vs Q E hr h => ?_)
  · obtain ⟨rt, vs0, rows, rfl, _⟩ := h
    rfl
  · obtain ⟨rt, vs0, rows, rfl, hrt, hrows, hlen, huniq, htg, k⟩ := h
    have hu := hu_of hr
    have hvs : vs0.length = rows.length := hrows.length
    refine ⟨_,
(pss_cons (ps_setDc (i := 1) (own := [("number", 3), ("row", 4)]) rfl sc.nd rfl rfl (swd_true rfl rfl rfl (by decide +kernel)) (pi_enumT (by rfl) T.enumerate (pa_cons (pv 0) pa_nil)) (blkOk_by (own := [("number", 3), ("row", 4)]) (N := ["rows", "spots", "found", "number", "row", "some"]) (sc := defScope (topS 5)) (by decide +kernel)) (fun _ _ _ _ _ => (pg_tupK (K := K) (n := 2) rfl rfl (pgs_cons (pg_name (i := 3) sc.nd rfl (Or.inl rfl)) (pgs_cons (pg_name (i := 4) sc.nd rfl (Or.inl rfl)) pgs_nil)))) (fun _ _ _ _ _ => (pts_one (pt_cmpR op_eq (pe_ix (r := rIxT K) ix_tup (pv 4) pe_int (fun _ _ => rfl)) pe_str (nomark _)))) (fun _ _ _ _ _ => (pe_ix (r := rIxT K) ix_tup (pv 4) pe_int (fun _ _ => rfl))) (fun _ _ _ _ _ => (pv 3)))
(pss_cons (ps_set (i := 2) sc.nd rfl (Or.inl rfl) (pe_lst pa_nil))
(pss_cons (ps_for PassesOwn.never rfl (pi_enumT (by rfl) T.enumerate (pa_cons (pv 0) pa_nil)) (pg_tup rfl (pgs_cons (pg_name (i := 3) sc.nd rfl (Or.inl rfl)) (pgs_cons (pg_name (i := 4) sc.nd rfl (Or.inl rfl)) pgs_nil)))
(pss_cons (ps_set (i := 5) sc.nd rfl (Or.inl rfl) (pe_ifExp (pt_inT hu (pe_ix ix_tup (pv 4) pe_int (fun _ _ => rfl)) (pas_cons (pas_cons (pas_cons pas_nil))) (by decide)) (pe_lst pa_nil) (pe_lst (pa_cons (pe_op op_add (pv 3) pe_int) pa_nil))))
(pss_cons (ps_if (pt_inT hu (pe_ix ix_tup (pv 4) pe_int (fun _ _ => rfl)) (pas_cons (pas_cons pas_nil)) (by decide))
(pss_one (ps_expr (pe_bm PySem.F.plainAttrs_list PySem.F.slot_list_append PySem.F.type_list_append mt_append (pv 5) (pa_cons (pe_dget hu (pv 1) (pe_ix ix_tup (pv 4) (pe_ifExp (pt_cmpR op_eq (pe_ix ix_tup (pv 4) pe_int (fun _ _ => rfl)) pe_str (nomark _)) pe_int pe_int) (fun _ _ => rfl)) (fun _ _ => rfl)) pa_nil))))
pss_nil)
(pss_one (ps_expr (pe_bm PySem.F.plainAttrs_list PySem.F.slot_list_append PySem.F.type_list_append mt_append (pv 2) (pa_cons (pv 5) pa_nil)))))))
(pss_one (ps_ret (pv 2))))))
    , ?_⟩
    refine ⟨_, rfl, rt, vs0, rfl, SqT.of hrt, fun D hD => ?_⟩
    refine dc_it (walk_numT (xs := vs0)) (fun i H' => ∃ kvs : List (Key × V), H' D = some (.dK kvs) ∧ kvs.length ≤ i ∧ Same H H' ∧ (∀ kk v, valV kvs (.inl kk) = some v ↔ ∃ j : Nat, j < i ∧ rows[j]? = some (.label kk) ∧ v = .int (j : Int))) ?_ (fun i H' _ p => ?_) ?_ ?_
    · exact ⟨[], upd_same, Nat.le_refl _, same_new hD, fun kk v => ⟨fun h => (by cases h), fun ⟨j, h, _⟩ => absurd h (by omega)⟩⟩
    · obtain ⟨kvs, _, _, S, _⟩ := p
      exact SqT.of (S _ _ hrt)
    · rintro i x H2 H3 hi ⟨kvs, hDk, hkl, S, hiff⟩ ⟨t, x1, x2, rfl, ht, rfl, e1, e2⟩
      cases e1
      have hi' : i < rows.length := by omega
      obtain ⟨v, hv, a, b, p, rfl, ha, hb⟩ := paired_at hrows (List.getElem?_eq_getElem hi')
      dsimp only at e2
      rw [hv] at e2
      cases e2
      have Et := same_new (o := .tup [.int (i : Nat), .ref a]) ht
      have ha3 := Et _ _ (S _ _ ha)
      have hD3 := Et _ _ hDk
      have S3 := S.trans Et
      refine ⟨_, _, rfl, SqT.of upd_same, rfl, _, _, rfl, _, _, rfl, rfl, rfl, ?_⟩
      refine ⟨_, rfl, _, _, _, _, rfl, rfl, SqT.of ha3, (at0 _ b p), rfl, _, rfl, ?_⟩
      by_cases hl : ∃ kk, rows[i] = .label kk
      · obtain ⟨kk, ekk⟩ := hl
        rw [ekk] at ha3 ⊢
        refine iT (by rfl) ⟨_, rfl, _, _, _, _, rfl, rfl, SqT.of ha3, rfl, _, rfl, kvs, .inl kk, rfl, hD3, szl (by omega), ?_⟩
        refine ⟨_, upd_same, Nat.le_trans (length_putK _ _ _) (by omega), fun b o e => by rw [upd_ne (ne_of_none e hD)]; exact S3 _ _ e, fun k2 v2 => ?_⟩
        rw [valV_put]
        by_cases e : (.inl k2 : Key) = .inl kk
        · cases e
          rw [if_pos rfl]
          constructor
          · intro h
            cases h
            exact ⟨i, by omega, by rw [List.getElem?_eq_getElem hi', ekk], rfl⟩
          · rintro ⟨j, h1, h2, h3⟩
            rw [h3, huniq j i kk h2 (by rw [List.getElem?_eq_getElem hi', ekk])]
        · rw [if_neg e, hiff]
          constructor
          · rintro ⟨j, h1, h2, h3⟩
            exact ⟨j, by omega, h2, h3⟩
          · rintro ⟨j, h1, h2, h3⟩
            refine ⟨j, ?_, h2, h3⟩
            rcases Nat.lt_or_ge j i with h | h
            · exact h
            · have ej : j = i := by omega
              subst ej
              rw [List.getElem?_eq_getElem hi', ekk] at h2
              cases h2
              exact absurd rfl e
      · refine iF ?_ ⟨kvs, hD3, by omega, S3, fun k2 v2 => ?_⟩
        · cases h : rows[i] with
          | label kk => exact absurd ⟨kk, h⟩ hl
          | op o _ _ _ => cases o <;> rfl
          | _ => rfl
        · rw [hiff]
          constructor
          · rintro ⟨j, h1, h2, h3⟩
            exact ⟨j, by omega, h2, h3⟩
          · rintro ⟨j, h1, h2, h3⟩
            refine ⟨j, ?_, h2, h3⟩
            rcases Nat.lt_or_ge j i with h | h
            · exact h
            · have ej : j = i := by omega
              subst ej
              rw [List.getElem?_eq_getElem hi'] at h2
              exact absurd ⟨_, Option.some.inj h2⟩ hl
    rintro H2 ⟨kvs, hDk, hkl, S2, hiff⟩
    have hspot : ∀ k p, spotOf rows k = some p → valV kvs (.inl k) = some (.int (p : Int)) := fun k p e => by
      have e2 := (spotOf_iff huniq k p).mp e
      exact (hiff k _).mpr ⟨p, by rw [hvs]; exact (List.getElem?_eq_some_iff.mp e2).1, e2, rfl⟩
    clear hiff
    refine ⟨Nat.zero_le _, fun fl hfl => ?_⟩
    have E3 := same_new (o := .lst []) hfl
    have fl3 := @upd_same H2 fl (.lst [])
    have hfl0 : H fl = none := S2.free hfl
    have hD3 := E3 _ _ hDk
    refine ⟨_, rfl, rt, vs0, rfl, SqT.of ((S2.trans E3) _ _ hrt), ?_⟩
    refine for_it (walk_numT (xs := vs0)) (fun i σ' H' => ∃ (as : List Addr) (x3 x4 x5 : Option V), σ' = [some (.ref rt), some (.ref D), some (.ref fl), x3, x4, x5] ∧ H' fl = some (.lst (as.map V.ref)) ∧ as.length = i ∧
      (∀ (j : Nat) (a : Addr), as[j]? = some a → a ≠ fl ∧ H' a = some (.lst ((nexts rows j).map fun (j : Nat) => V.int (j : Int)))) ∧ Same H H' ∧ H' D = some (.dK kvs)) ?_ (fun i σ' H' _ p => ?_) ?_ ?_
    · exact ⟨[], _, _, _, rfl, fl3, rfl, fun j a e => (by simp at e), S2.trans E3, hD3⟩
    · obtain ⟨as, _, _, _, _, _, _, _, S, _⟩ := p
      exact SqT.of (S _ _ hrt)
    · rintro i x σ' H3 H4 hi ⟨as, x3, x4, x5, rfl, hfl3, hal, has, S3, hDk3⟩ ⟨t, x1, x2, rfl, ht, rfl, e1, e2⟩
      cases e1
      have hi' : i < rows.length := by omega
      obtain ⟨v, hv, a, b, p, rfl, ha, hb⟩ := paired_at hrows (List.getElem?_eq_getElem hi')
      dsimp only at e2
      rw [hv] at e2
      cases e2
      have em : rows[i]? = some rows[i] := List.getElem?_eq_getElem hi'
      have htm := htg rows[i] (List.getElem_mem hi')
      generalize rows[i] = m at ha hb em htm
      have Et := same_new (o := .tup [.int (i : Nat), .ref a]) ht
      have ha4 := Et _ _ (S3 _ _ ha)
      have S4 := S3.trans Et
      have hfl4 := Et _ _ hfl3
      have hDk4 := Et _ _ hDk3
      have has4 : ∀ (j : Nat) (a' : Addr), as[j]? = some a' → a' ≠ fl ∧ (upd H3 t (.tup [.int (i : Nat), .ref a])) a' = some (.lst ((nexts rows j).map fun (j : Nat) => V.int (j : Int))) := fun j a' e => ⟨(has j a' e).1, Et _ _ (has j a' e).2⟩
      refine ⟨_, _, rfl, SqT.of upd_same, rfl, _, _, rfl, _, _, rfl, rfl, ?_⟩
      generalize upd H3 t (.tup [.int (i : Nat), .ref a]) = H4 at Et ha4 S4 hfl4 hDk4 has4 ⊢
      clear hfl3 hDk3 has S3 ht Et
      dsimp only
      show tSeq _ _ _ [some (.ref rt), some (.ref D), some (.ref fl), some (.int (i : Nat)), some (.ref a), x5] H4
      refine seq_cut (fun σ' H' => ∃ q : Addr, σ' = [some (.ref rt), some (.ref D), some (.ref fl), some (.int (i : Nat)), some (.ref a), some (.ref q)] ∧ Same H4 H' ∧ H4 q = none ∧
        H' q = some (.lst ((match m with | .go _ => [] | .give _ => [] | .nothing => [] | _ => [i + 1]).map fun (j : Nat) => V.int (j : Int)))) ?_ (fun nx hn => ?_)
      · rintro _ H5 ⟨q, rfl, S5, hq4, hq5⟩
        have nqf : q ≠ fl := (ne_of_none hfl4 hq4).symm
        have nqD : q ≠ D := (ne_of_none hDk4 hq4).symm
        show tSeq _ _ _ [some (.ref rt), some (.ref D), some (.ref fl), some (.int (i : Nat)), some (.ref a), some (.ref q)] H5
        refine seq_cut (fun σ' H' => σ' = [some (.ref rt), some (.ref D), some (.ref fl), some (.int (i : Nat)), some (.ref a), some (.ref q)] ∧ (∀ b, b ≠ q → H' b = H5 b) ∧
          H' q = some (.lst ((nexts rows i).map fun (j : Nat) => V.int (j : Int)))) ?_ (fun nx hn => ?_)
        · rintro _ H6 ⟨rfl, o6, hq6⟩
          have st : ∀ b o, H4 b = some o → H6 b = some o := fun b o e => (o6 b (ne_of_none e hq4)).trans (S5 _ _ e)
          have hfl6 := st _ _ hfl4
          refine ⟨_, rfl, .inl ⟨rfl, _, SqL.of hfl6⟩, _, rfl, fl, _, _, rfl, rfl, hfl6, by rw [List.length_map]; exact szl (by omega), ?_⟩
          refine ⟨as ++ [q], _, _, _, rfl, by rw [upd_same, List.map_append]; rfl, by rw [List.length_append, hal]; rfl, fun j a' e => ?_, fun b o e => ?_, ?_⟩
          · rw [List.getElem?_append] at e
            split at e
            · obtain ⟨h1, h2⟩ := has4 j a' e
              exact ⟨h1, by rw [upd_ne h1]; exact st _ _ h2⟩
            · rename_i hj
              have hj2 : j = i := by
                rcases Nat.lt_or_ge i j with h | h
                · rw [List.getElem?_eq_none (by simp; omega)] at e
                  cases e
                · omega
              subst hj2
              rw [hal, Nat.sub_self] at e
              cases e
              exact ⟨nqf, by rw [upd_ne nqf]; exact hq6⟩
          · rw [upd_ne (ne_of_none e hfl0)]
            exact st _ _ (S4 _ _ e)
          · rw [upd_ne (ne_of hDk4 hfl4 (by intro z; cases z))]
            exact st _ _ hDk4
        · have ha5 := S5 _ _ ha4
          have hDk5 := S5 _ _ hDk4
          have quiet : inS (.str m.word) ["go", "unless"] = false → (nexts rows i = match m with | .go _ => [] | .give _ => [] | .nothing => [] | _ => [i + 1]) := fun hw => by
            unfold nexts
            rw [em]
            cases m with
            | go _ => cases hw
            | unl _ _ => cases hw
            | _ => rfl
          by_cases hw : inS (.str m.word) ["go", "unless"] = true
          · refine ⟨_, rfl, _, _, _, _, rfl, rfl, SqT.of ha5, (at0 m b p), .inl rfl, iT hw ?_⟩
            cases m with
            | go kk =>
              obtain ⟨pp, epp⟩ := htm
              refine ⟨_, rfl, .inl ⟨rfl, _, SqL.of hq5⟩, _, rfl, _, rfl, _, rfl, _, _, _, _, rfl, rfl, SqT.of ha5, rfl, rfl, _, rfl, iT (by rfl) ⟨_, _, _, _, rfl, rfl, SqT.of ha5, rfl, D, _, rfl, .inl ⟨kvs, .inl kk, .inl hDk5, rfl, (hspot kk pp epp).symm⟩, q, _, _, rfl, rfl, hq5, (by show 0 < sizeLine; decide), ?_⟩⟩
              refine hn _ _ ⟨rfl, fun b' nb => upd_ne nb, ?_⟩
              rw [upd_same, show nexts rows i = [pp] by unfold nexts; rw [em]; simp only [epp]; rfl]
              rfl
            | unl c kk =>
              obtain ⟨pp, epp⟩ := htm
              refine ⟨_, rfl, .inl ⟨rfl, _, SqL.of hq5⟩, _, rfl, _, rfl, _, rfl, _, _, _, _, rfl, rfl, SqT.of ha5, rfl, rfl, _, rfl, iF (by rfl) ⟨_, _, _, _, rfl, rfl, SqT.of ha5, rfl, D, _, rfl, .inl ⟨kvs, .inl kk, .inl hDk5, rfl, (hspot kk pp epp).symm⟩, q, _, _, rfl, rfl, hq5, (by show 1 < sizeLine; decide), ?_⟩⟩
              refine hn _ _ ⟨rfl, fun b' nb => upd_ne nb, ?_⟩
              rw [upd_same, show nexts rows i = [i + 1, pp] by unfold nexts; rw [em]; simp only [epp]; rfl]
              rfl
            | op o _ _ _ => cases o <;> cases hw
            | _ => cases hw
          · have hw : inS (.str m.word) ["go", "unless"] = false := by simpa using hw
            refine ⟨_, rfl, _, _, _, _, rfl, rfl, SqT.of ha5, (at0 m b p), .inl rfl, iF hw ?_⟩
            exact hn _ _ ⟨rfl, fun _ _ => rfl, by rw [quiet hw]; exact hq5⟩
      · refine ⟨_, rfl, _, _, _, _, rfl, rfl, SqT.of ha4, (at0 m b p), .inl rfl, ?_⟩
        have one : ∀ x : Nat, nx [some (.ref rt), some (.ref D), some (.ref fl), some (.int (i : Nat)), some (.ref a), some (.ref x)] (upd H4 x (.lst [.int ((i : Nat) + 1)])) = nx [some (.ref rt), some (.ref D), some (.ref fl), some (.int (i : Nat)), some (.ref a), some (.ref x)] (upd H4 x (.lst ([i + 1].map fun (j : Nat) => V.int (j : Int)))) := fun x => rfl
        cases m with
        | go k => exact iT (by rfl) ⟨Nat.zero_le _, fun q hq => hn _ _ ⟨q, rfl, same_new hq, hq, upd_same⟩⟩
        | give k => exact iT (by rfl) ⟨Nat.zero_le _, fun q hq => hn _ _ ⟨q, rfl, same_new hq, hq, upd_same⟩⟩
        | nothing => exact iT (by rfl) ⟨Nat.zero_le _, fun q hq => hn _ _ ⟨q, rfl, same_new hq, hq, upd_same⟩⟩
        | op o _ _ _ => exact iF (by cases o <;> rfl) ⟨_, rfl, _, _, rfl, rfl, by show 1 ≤ sizeLine; decide, fun q hq => hn _ _ ⟨q, rfl, same_new hq, hq, upd_same⟩⟩
        | _ => exact iF (by rfl) ⟨_, rfl, _, _, rfl, rfl, by show 1 ≤ sizeLine; decide, fun q hq => hn _ _ ⟨q, rfl, same_new hq, hq, upd_same⟩⟩
    · rintro σ' H3 ⟨as, x3, x4, x5, rfl, hfl3, hal, has, S3, _⟩
      exact ⟨_, rfl, k fl H3 S3 ⟨as, hfl3, hal.trans hvs, fun j a e => (has j a e).2⟩⟩
end
end K48
set_option maxHeartbeats 4000000
set_option linter.all false
/-! own rules: {k: v for a in e for b in f}, d.update(e) -/
namespace K48
open PySem PySem.Spec PyProof.Rows L2
/-- a clause without tests, its turn's work left open: B -/
theorem clause_loop {Y : Cx} (hc : Y.calm = true) (hxe : Y.xe = fun _ _ => False) {tg : Expr} {g : TG} (pg : PG Y tg g) {J : It} {fp : List Addr} {it : Addr} {tn : Nat → Heap → Prop} (T : Turn Y.prog Y.w Y.K tg J fp it tn)
    {pins : List (Addr × Obj)} {τ : L2.St} {kx vx : Expr} {gs : List Comprehension} {sc : Scope} {ps : Pos} {d : Nat} {acc : Value} {B : Sem Fin} {p : Pos}
    (hT : compTurn (.DictComp kx vx gs sc ps) d (.ref it) acc Y.env = (do
      standAt p
      match ← pyNext (.ref it) with
      | none => pure (.done .next)
      | some v =>
        letOwnedTupleGo tg (.ref it) v
        assign tg Y.env v
        B))
    {R : Result → Shared → Prop} (W : Nat → Nat → Hp → Prop) (Bd : (Hp → Prop) → L2.St → Hp → Prop) (Stop : Hp → Prop)
    (turn : ∀ i m H, W i m H → (J.stop i H ∧ Stop H) ∨ (J.go i H ∧ ∃ Nx : Hp → Prop, (∀ H', Nx H' → ∃ m', m' < m ∧ W (i + 1) m' H') ∧ ∀ x H', J.yld i H x H' → g x τ H' (Bd Nx)))
    (body : ∀ Nx σ2 H2 s more, Bd Nx σ2 H2 → Inv Y (pins ++ more) σ2 H2 s →
      wpAny (model Y.prog Y.w) Y.A B (fun f s' => f = .again (.compLoop (.DictComp kx vx gs sc ps) d (.ref it) acc Y.env) ∧ ∃ σ' H', Inv Y (pins ++ more) σ' H' s' ∧ τ.length = σ'.length ∧ (∀ (j : Nat) v, τ[j]? = some (some v) → σ'[j]? = some (some v)) ∧ Nx H') (fun _ _ => False) s)
    (fin : ∀ H s, Stop H → Inv Y pins τ H s → R (.ok .next) s)
    {m0 : Nat} {H0 : Hp} {s0 : Shared} (I0 : Inv Y pins τ H0 s0) (hf : ∀ b ∈ fp, FpOk Y pins H0 b) (hst : tn 0 s0.heap) (w0 : W 0 m0 H0) :
    codeAny (model Y.prog Y.w) Y.A (.compLoop (.DictComp kx vx gs sc ps) d (.ref it) acc Y.env) R s0 := by
  have ok : ∀ H, (∀ b ∈ fp, H b = none) → ∀ b ∈ fp, FpOk Y pins H b := fun H hn b hb => ⟨hn b hb, (hf b hb).2⟩
  refine codeAny_loop rfl (fun n s => ∃ i H, Inv Y pins τ H s ∧ tn i s.heap ∧ (∀ b ∈ fp, H b = none) ∧ W i n H) (fun n s hI => ?_) m0 ⟨0, H0, I0, hst, fun b hb => (hf b hb).1, w0⟩
  obtain ⟨i, H, I, st, hn, wi⟩ := hI
  show wpAny _ Y.A ((compTurn (.DictComp kx vx gs sc ps) d (.ref it) acc Y.env).onRaise (fun x => do noteFrame x Y.env; theTreesLotGoes x)) _ _ s
  refine wpAny_noted ?_
  rw [hT]
  refine wpAny_bind (wpAny_standAt (wpAny_bind ?_))
  rcases turn i n H wi with ⟨stop, hs⟩ | ⟨go, Nx, hNx, step⟩
  · refine thnF (T.done Y rfl rfl rfl hc i pins s τ H (fun _ _ => False) I (ok H hn) st stop) fun r s1 h1 => ?_
    obtain ⟨rfl, I1⟩ := h1
    exact wpAny_pure (fin H s1 hs I1)
  · refine thnF (T.item Y rfl rfl rfl hc i pins s τ H (fun _ _ => False) I (ok H hn) st go) fun r s1 h1 => ?_
    obtain ⟨u, rfl, h1⟩ := h1
    refine wpAny_bind (thnF h1 fun _ s2 h2 => ?_)
    obtain ⟨x, H2, I2, r2, y2, st2, n2⟩ := h2
    have stored := pg.run _ s2 τ H2 x u _ (I2.pinned (ok H2 n2) (T.obj _ _ st2)) r2 (step x H2 y2)
    rw [hxe] at stored
    refine wpAny_bind (thnF stored fun _ s3 h3 => ?_)
    obtain ⟨σ3, H3, I3, q3⟩ := h3
    refine thnF (body Nx σ3 H3 s3 _ q3 I3) fun f s4 h4 => ?_
    obtain ⟨rfl, σ4, H4, I4, l4, k4, nx⟩ := h4
    obtain ⟨m', hm, w'⟩ := hNx H4 nx
    have held : ∀ b ∈ fp, ∀ o, s2.heap.get? b = some o → s4.heap.get? b = some o ∧ H4 b = none := fun b hb o eo => by
      obtain ⟨z1, z2, _⟩ := I4.pin (b, o) (List.mem_append_right _ (List.mem_append_right _ (mem_pinsAt hb eo)))
      exact ⟨z1, z2⟩
    refine ⟨rfl, m', hm, i + 1, H4, I4.unpinned.weak l4 k4, T.keep _ _ _ st2 fun b hb o eo => (held b hb o eo).1, fun b hb => ?_, w'⟩
    obtain ⟨o, eo, _⟩ := T.obj _ _ st2 b hb
    exact (held b hb o eo).2
theorem turn2_first (kx vx t0 i0 t1 i1 : Expr) (scope : Scope) (pos : Pos) (it acc : Value) (env : Env) :
    compTurn (.DictComp kx vx [⟨t0, i0, [], 0⟩, ⟨t1, i1, [], 0⟩] scope pos) 0 it acc env = (do
      standAt i0.pos
      match ← pyNext it with
      | none => pure (.done .next)
      | some v =>
        letOwnedTupleGo t0 it v
        assign t0 env v
        let mut ok := true
        for c in ([] : List Expr) do
          if ok then ok ← isTrue c env (eval c env)
        if ok then
          let x ← eval i1 env
          standAt i1.pos
          let x ← foldedSetIterable i1 env x
          let _ ← runOwn (.compStart (.DictComp kx vx [⟨t0, i0, [], 0⟩, ⟨t1, i1, [], 0⟩] scope pos) 1 (← holding [x] (pyIter x)) acc env) env
        again (.compLoop (.DictComp kx vx [⟨t0, i0, [], 0⟩, ⟨t1, i1, [], 0⟩] scope pos) 0 it acc env)) := by
  rfl
theorem turn2_last (kx vx t0 i0 t1 i1 : Expr) (scope : Scope) (pos : Pos) (it : Value) (D : Addr) (env : Env) :
    compTurn (.DictComp kx vx [⟨t0, i0, [], 0⟩, ⟨t1, i1, [], 0⟩] scope pos) 1 it (.ref D) env = (do
      standAt i1.pos
      match ← pyNext it with
      | none => pure (.done .next)
      | some v =>
        letOwnedTupleGo t1 it v
        assign t1 env v
        let mut ok := true
        for c in ([] : List Expr) do
          if ok then ok ← isTrue c env (eval c env)
        if ok then
          (do
            let kv ← eval kx env
            let vv ← holding [kv] (eval vx env)
            standAt { kx.pos with endLine := vx.pos.endLine, endCol := vx.pos.endCol }
            holding [kv, vv] (dictSet D kv vv))
        again (.compLoop (.DictComp kx vx [⟨t0, i0, [], 0⟩, ⟨t1, i1, [], 0⟩] scope pos) 1 it (.ref D) env)) := by
  rfl
/-- the second clause's start -/
theorem start2 {prog : Program} {w : World} {A : Around} {R : Result → Shared → Prop} {s : Shared} {kx vx t0 i0 t1 i1 : Expr} {scope : Scope} {pos : Pos} {it acc : Value} {env : Env}
    (h0 : codeAny (model prog w) A (.compLoop (.DictComp kx vx [⟨t0, i0, [], 0⟩, ⟨t1, i1, [], 0⟩] scope pos) 1 it acc env) R s)
    (h : wpAny (model prog w) A (pyIter it) (fun it2 s2 => codeAny (model prog w) A (.compLoop (.DictComp kx vx [⟨t0, i0, [], 0⟩, ⟨t1, i1, [], 0⟩] scope pos) 1 it2 acc env) R s2)
      (notedBy (model prog w) A env fun x s' => R (.error x) s') s) :
    codeAny (model prog w) A (.compStart (.DictComp kx vx [⟨t0, i0, [], 0⟩, ⟨t1, i1, [], 0⟩] scope pos) 1 it acc env) R s := by
  refine codeAny_of_tree ?_
  show wpAny _ A ((compStart (.DictComp kx vx [⟨t0, i0, [], 0⟩, ⟨t1, i1, [], 0⟩] scope pos) 1 it acc env).onRaise (fun x => do noteFrame x env; standAt theWindowsPlace)) _ _ s
  refine wpAny_notedAt ?_
  unfold compStart
  show wpAny _ A (ask >>= _) _ _ s
  refine wpAny_bind (wpAny_askSetting (wpAny_ite ?_))
  split
  · exact wpAny_pure ⟨rfl, h0⟩
  · refine wpAny_bind (wpAny_rule ?_)
    show wpAny _ A (standAt i1.pos >>= _) _ _ s
    exact wpAny_bind (wpAny_standAt (wpAny_bind (wpAny_mono h (fun it2 s2 g => wpAny_pure ⟨rfl, g⟩) fun _ _ x => x)))
theorem knows_wipe {τ σ : L2.St} {vs : List Nat} (h : wipe σ vs = wipe τ vs) : (wipe τ vs).length = σ.length ∧ ∀ (j : Nat) v, (wipe τ vs)[j]? = some (some v) → σ[j]? = some (some v) ∧ j ∉ vs := by
  rw [← h]
  exact ⟨wipe_length _ _, fun j v e => wipe_some e⟩
section
variable {X : Cx}
/-- {k: v for a in e for b in f}: D the new dict; vs: the block's names, vs1: those of the second target -/
def tDc2 (wi : TI) (g : TG) (wi1 : TI) (g1 : TG) (tk tv : TE) (vs vs1 : List Nat) : TE := fun σ H Q => wi σ H fun J H1 => ∀ D, H1 D = none →
  ∃ W : Nat → Nat → Hp → Prop, (∃ m, W 0 m (upd H1 D (.dK []))) ∧ ∀ i m H, W i m H → (J.stop i H ∧ Q (.ref D) H) ∨ (J.go i H ∧ ∃ Nx : Hp → Prop, (∀ H', Nx H' → ∃ m', m' < m ∧ W (i + 1) m' H') ∧
    ∀ x H', J.yld i H x H' → g x (wipe σ vs) H' fun σ2 H2 => wipe σ2 vs = wipe σ vs ∧ wi1 σ2 H2 fun J1 H3 =>
      ∃ W1 : Nat → Nat → Hp → Prop, (∃ m, W1 0 m H3) ∧ ∀ j n H, W1 j n H → (J1.stop j H ∧ Nx H) ∨ (J1.go j H ∧ ∃ Ny : Hp → Prop, (∀ H', Ny H' → ∃ n', n' < n ∧ W1 (j + 1) n' H') ∧
        ∀ x H', J1.yld j H x H' → g1 x (wipe σ2 vs1) H' fun σ3 H4 => wipe σ3 vs1 = wipe σ2 vs1 ∧ tk σ3 H4 fun y H5 => tv σ3 H5 fun z H6 =>
          ∃ kvs k, y = kV k ∧ H6 D = some (.dK kvs) ∧ kvs.length < sizeLine ∧ Ny (upd H6 D (.dK (putK kvs k z)))))
theorem dc2_core {pins : List (Addr × Obj)} {s : Shared} {σ : L2.St} {H : Hp} {Q : VK} {kx vx tg iter tg1 iter1 : Expr} {scope : Scope} {own : List (Str × Nat)} {vs1 : List Nat} {pos pos' : Pos} {wi wi1 : TI} {g g1 : TG} {tk tv : TE}
    {use : Option (Value → Sem Unit)} {Qf : Value → Shared → Prop} (hc : X.calm = true) (hN : X.N.Nodup) (I : Inv X pins σ H s) (hi : PI X tg iter wi) (ok : BlkOk X.N X.env.scope scope own) (hv : ∀ i ∈ vs1, i ∈ own.map (·.2))
    (hg : ∀ (s : Shared) (H : Hp) (C : Addr) (cl : List (Str × Addr)) (fp : List Addr), PG (X.blk s H scope (compEnvC scope cl C X.env) fp) tg g)
    (hk : ∀ (s : Shared) (H : Hp) (C : Addr) (cl : List (Str × Addr)) (fp : List Addr), PE (X.blk s H scope (compEnvC scope cl C X.env) fp) kx tk)
    (he : ∀ (s : Shared) (H : Hp) (C : Addr) (cl : List (Str × Addr)) (fp : List Addr), PE (X.blk s H scope (compEnvC scope cl C X.env) fp) vx tv)
    (hi1 : ∀ (s : Shared) (H : Hp) (C : Addr) (cl : List (Str × Addr)) (fp : List Addr), PI (X.blk s H scope (compEnvC scope cl C X.env) fp) tg1 iter1 wi1)
    (hg1 : ∀ (s : Shared) (H : Hp) (C : Addr) (cl : List (Str × Addr)) (fp : List Addr), PG (X.blk s H scope (compEnvC scope cl C X.env) fp) tg1 g1)
    (hs : ∀ x, foldedSetIterable iter X.env x = pure x) (hs1 : ∀ env x, foldedSetIterable iter1 env x = pure x)
    (h : tDc2 wi g wi1 g1 tk tv (own.map (·.2)) vs1 σ H Q)
    (hRR : ∀ D C s' m H', Inv X pins σ H' s' → Q (.ref D) H' → s'.heap.Ns C m → FpOk X pins H' C → compPost (model X.prog X.w) X.A X.xe use Qf (.ref D) C (.ok .next) s') :
    wpAny (model X.prog X.w) X.A (comprehension (.DictComp kx vx [⟨tg, iter, [], 0⟩, ⟨tg1, iter1, [], 0⟩] scope pos) scope X.env pos' newDict false (eval iter X.env) use) Qf X.xe s := by
  have bound : ∀ y ∈ scope.names, y.2 = .free → ∃ c, X.env.cells.lookup y.1 = some c := fun y hy e => by
    rcases ok.free y hy e with q | q
    · exact I.ok.has _ (.inl q)
    · exact I.ok.has _ (.inr q)
  refine wpAny_comprehension_free (use := use) rfl hs (closure_ok bound) ok.kind (fun y hy e => by rw [ok.uniq y hy, e]) (thn (hi.run pins s σ H _ I h) fun _ s1 hx => thn hx fun _ s2 h2 => ?_)
  obtain ⟨it, fp, tn, J, H2, rfl, I2, T, st2, f2, q⟩ := h2
  refine wpAny_newObj_type (newEnv_comp ?_)
  obtain ⟨W, ⟨m0, w0⟩, turn⟩ := q s2.heap.objs.size (I2.hok.fresh (Nat.le_refl _))
  -- the new dict
  have ID : Inv X pins σ (upd H2 s2.heap.objs.size (.dK [])) { s2 with heap := s2.heap.push { cls := .type "dict", data := .dict #[] } } :=
    I2.laid (t' := s2.toks) (fun b o e => Heap.get?_push_of_some _ e) (Nat.le_refl _) (dk_empty s2.heap I2.big)
  have hp3 : ∀ b o, s2.heap.get? b = some o → (s2.heap.push { cls := .type "dict", data := .dict #[] }).get? b = some o := fun b o e => Heap.get?_push_of_some _ e
  generalize hH3 : upd H2 s2.heap.objs.size (.dK []) = H3 at ID w0
  generalize hs3 : ({ s2 with heap := s2.heap.push { cls := .type "dict", data := .dict #[] } } : Shared) = s3 at ID
  have hs3h : s3.heap = s2.heap.push { cls := .type "dict", data := .dict #[] } := by rw [← hs3]
  have small : ∀ b ∈ fp, b < s2.heap.objs.size := fun b hb => by
    obtain ⟨o, e, _⟩ := T.obj _ _ st2 b hb
    exact Heap.lt_size e
  have f3 : ∀ b ∈ fp, FpOk X pins H3 b ∧ b < s3.heap.objs.size := fun b hb => by
    refine ⟨⟨?_, (f2 b hb).2⟩, ?_⟩
    · rw [← hH3, upd_ne (Nat.ne_of_lt (small b hb))]
      exact (f2 b hb).1
    · rw [hs3h, Heap.size_push]
      exact Nat.lt_succ_of_lt (small b hb)
  have IB := block_start ID ok hN f3
  have st4 : tn 0 (pushCells (s3.heap.push { cls := .type "dict", data := .dict #[] }) scope.names) := T.keep _ _ _ st2 fun b _ o e => pushCells_keeps _ _ _ _ (Heap.get?_push_of_some _ (by rw [hs3h]; exact hp3 b o e))
  have pg := hg s3 H3 s3.heap.objs.size (cellsFrom (s3.heap.objs.size + 1) scope.names (cloFrom X.env.cells scope.names [])) fp
  have pk := hk s3 H3 s3.heap.objs.size (cellsFrom (s3.heap.objs.size + 1) scope.names (cloFrom X.env.cells scope.names [])) fp
  have pv := he s3 H3 s3.heap.objs.size (cellsFrom (s3.heap.objs.size + 1) scope.names (cloFrom X.env.cells scope.names [])) fp
  have pi := hi1 s3 H3 s3.heap.objs.size (cellsFrom (s3.heap.objs.size + 1) scope.names (cloFrom X.env.cells scope.names [])) fp
  have pg1 := hg1 s3 H3 s3.heap.objs.size (cellsFrom (s3.heap.objs.size + 1) scope.names (cloFrom X.env.cells scope.names [])) fp
  show codeAny _ _ (.compStart (.DictComp kx vx [⟨tg, iter, [], 0⟩, ⟨tg1, iter1, [], 0⟩] scope pos) 0 (.ref it) (.ref s2.heap.objs.size) (compEnvC scope (cellsFrom (s3.heap.objs.size + 1) scope.names (cloFrom X.env.cells scope.names [])) s3.heap.objs.size X.env))
    (compPost (model X.prog X.w) X.A X.xe use Qf (.ref s2.heap.objs.size) s3.heap.objs.size) { s3 with heap := pushCells (s3.heap.push { cls := .type "dict", data := .dict #[] }) scope.names }
  generalize hcw : compEnvC scope (cellsFrom (s3.heap.objs.size + 1) scope.names (cloFrom X.env.cells scope.names [])) s3.heap.objs.size X.env = cw at IB pg pk pv pi pg1 ⊢
  have hloc : cw.locals = s3.heap.objs.size := by rw [← hcw]; rfl
  generalize s2.heap.objs.size = D at turn hH3 ⊢
  have hfY : ∀ b ∈ fp, FpOk (X.blk s3 H3 scope cw fp) [] H3 b := fun b hb =>
    ⟨(f3 b hb).1.1, (IB.ok.exf b hb).1, IB.ok.exfs b hb, .inl hb, fun x c e => (IB.ok.exf b hb).2 x c e, fun p hp => by cases hp⟩
  have loop := clause_loop (Y := X.blk s3 H3 scope cw fp) hc rfl pg T (pins := []) (τ := wipe σ (own.map (·.2))) (acc := .ref D) (turn2_first kx vx tg iter tg1 iter1 scope pos (.ref it) (.ref D) cw)
    (R := compPost (model X.prog X.w) X.A X.xe use Qf (.ref D) s3.heap.objs.size) W _ _ turn ?_ ?_ IB hfY st4 w0
  · exact codeAny_compStart_dict loop (T.self X.A 0 _ _ _ st4 loop)
  · rintro Nx σ2 H5 s5 more ⟨hw, q2⟩ I5
    obtain ⟨l2, k2⟩ := knows_wipe hw
    refine wpAny_bind (wpAny_pure ?_)
    refine wpAny_bind (thnF (pi.run _ s5 σ2 H5 _ I5 q2) fun xv s6 h6 => ?_)
    refine wpAny_bind (wpAny_standAt (wpAny_bind (wpAny_of_eq (hs1 cw xv) (wpAny_bind (wpAny_holding (thnF h6 fun _ s7 h7 => ?_))))))
    obtain ⟨it1, fp1, tn1, J1, H7, rfl, I7, T1, st7, f7, W1, ⟨m1, w1⟩, turn1⟩ := h7
    have know2 : ∀ (j : Nat) v, (wipe σ (own.map (·.2)))[j]? = some (some v) → (wipe σ2 vs1)[j]? = some (some v) := fun j v e => by
      obtain ⟨e1, e2⟩ := k2 j v e
      rw [wipe_out fun z => e2 (hv j z)]
      exact e1
    have I7' := I7.weak (wipe_length σ2 vs1) fun j v e => (wipe_some e).1
    have inner := clause_loop (Y := X.blk s3 H3 scope cw fp) hc rfl pg1 T1 (τ := wipe σ2 vs1) (acc := .ref D) (turn2_last kx vx tg iter tg1 iter1 scope pos (.ref it1) D cw)
      (R := fun r s' => match r with
        | .ok _ => ∃ σ' H', Inv (X.blk s3 H3 scope cw fp) ([] ++ more) σ' H' s' ∧ (wipe σ (own.map (·.2))).length = σ'.length ∧ (∀ (j : Nat) v, (wipe σ (own.map (·.2)))[j]? = some (some v) → σ'[j]? = some (some v)) ∧ Nx H'
        | .error _ => False) W1 _ _ turn1 ?_ ?_ I7' f7 st7 w1
    · refine wpAny_bind (wpAny_runOwn ?_)
      rw [Around.mark_none]
      refine codeAny_mono (start2 inner (T1.self X.A 0 _ _ _ st7 inner)) fun r s8 hr => ?_
      cases r with
      | ok f => exact wpAny_pure ⟨rfl, hr⟩
      | error e => exact hr.elim
    · rintro Ny σ3 H8 s8 more8 ⟨hw3, q3⟩ I8
      obtain ⟨l3, k3⟩ := knows_wipe hw3
      refine wpAny_bind (wpAny_pure ?_)
      refine wpAny_bind (wpAny_bind (thnF (pk.run _ s8 σ3 H8 _ I8 q3) fun kv s9 h9 => ?_))
      obtain ⟨y, H9, I9, r9, q9⟩ := h9
      refine wpAny_bind (wpAny_holding (thnF (pv.run _ s9 σ3 H9 _ I9 q9) fun vv s10 h10 => ?_))
      obtain ⟨z, H10, I10, r10, kvs, k, rfl, hD10, hz10, ny⟩ := h10
      refine wpAny_bind (wpAny_standAt (wpAny_holding ?_))
      refine d_dictSet (X := X.blk s3 H3 scope cw fp) I10 hD10 hz10 r9 r10 fun s11 I11 => wpAny_pure ⟨rfl, σ3, _, I11, l3, fun j v e => (k3 j v e).1, ny⟩
    · intro H8 s8 nx I8
      exact ⟨_, H8, I8, l2.trans (wipe_length σ2 vs1).symm, know2, nx⟩
  · intro H5 s5 hq I5
    have I6 : Inv X pins σ H5 s5 := ID.call' (ch := fp) I5.os I5.base I5.hok I5.bare fun b hb => ⟨(f3 b hb).1.2.2.2.1, (f3 b hb).1.2.1, (f3 b hb).1.2.2.2.2.1, (f3 b hb).1.2.2.2.2.2⟩
    have free : H5 s3.heap.objs.size = none := by
      have z : H5 cw.locals = none := I5.free
      rwa [hloc] at z
    obtain ⟨m, hn, _⟩ := I5.loc
    have hn : s5.heap.Ns cw.locals m := hn
    rw [hloc] at hn
    exact hRR D s3.heap.objs.size s5 m H5 I6 hq hn (ID.fpOk (Nat.le_refl _) free)
/-- name = {k: v for a in e for b in f} on one line, the name a local -/
theorem ps_setDc2 {i : Nat} {y : Str} {py : Pos} {kx vx tg iter tg1 iter1 : Expr} {scope : Scope} {own : List (Str × Nat)} {vs1 : List Nat} {pos spos : Pos} {wi wi1 : TI} {g g1 : TG} {tk tv : TE} (hc : X.calm = true) (hN : X.N.Nodup)
    (hy : X.N[i]? = some y) (hyl : X.env.scope.names.lookup y = some .local) (hsw : swapsWith (.DictComp kx vx [⟨tg, iter, [], 0⟩, ⟨tg1, iter1, [], 0⟩] scope pos) (some (.Name y py)) spos.line X.env = pure true)
    (hi : PI X tg iter wi) (ok : BlkOk X.N X.env.scope scope own) (hv : ∀ i ∈ vs1, i ∈ own.map (·.2))
    (hg : ∀ (s : Shared) (H : Hp) (C : Addr) (cl : List (Str × Addr)) (fp : List Addr), PG (X.blk s H scope (compEnvC scope cl C X.env) fp) tg g)
    (hk : ∀ (s : Shared) (H : Hp) (C : Addr) (cl : List (Str × Addr)) (fp : List Addr), PE (X.blk s H scope (compEnvC scope cl C X.env) fp) kx tk)
    (he : ∀ (s : Shared) (H : Hp) (C : Addr) (cl : List (Str × Addr)) (fp : List Addr), PE (X.blk s H scope (compEnvC scope cl C X.env) fp) vx tv)
    (hi1 : ∀ (s : Shared) (H : Hp) (C : Addr) (cl : List (Str × Addr)) (fp : List Addr), PI (X.blk s H scope (compEnvC scope cl C X.env) fp) tg1 iter1 wi1)
    (hg1 : ∀ (s : Shared) (H : Hp) (C : Addr) (cl : List (Str × Addr)) (fp : List Addr), PG (X.blk s H scope (compEnvC scope cl C X.env) fp) tg1 g1)
    (hs : ∀ x, foldedSetIterable iter X.env x = pure x := by intro _; rfl) (hs1 : ∀ env x, foldedSetIterable iter1 env x = pure x := by intro _ _; rfl) :
    PS X (.Assign [.Name y py] (.DictComp kx vx [⟨tg, iter, [], 0⟩, ⟨tg1, iter1, [], 0⟩] scope pos) spos) (tAsg (tDc2 wi g wi1 g1 tk tv (own.map (·.2)) vs1) (gName i)) := by
  constructor
  intro pins s σ H D I h
  have h : tDc2 wi g wi1 g1 tk tv (own.map (·.2)) vs1 σ H (fun x H1 => gName i x σ H1 D.nx) := h
  rw [exec_Assign_Name_used _ _ _ _ hsw]
  refine wpAny_bind (wpAny_standAt (wpAny_bind ?_))
  show wpAny _ X.A (do let _ ← comprehension (.DictComp kx vx [⟨tg, iter, [], 0⟩, ⟨tg1, iter1, [], 0⟩] scope pos) scope X.env (firstIterPos [⟨tg, iter, [], 0⟩, ⟨tg1, iter1, [], 0⟩] pos) newDict false (eval iter X.env) (some (assign (.Name y py) X.env))) _ _ s
  refine wpAny_bind (thn (dc2_core (Qf := fun _ s' => SP X pins D .next s') hc hN I hi ok hv hg hk he hi1 hg1 hs hs1 h fun L C s' m H' I' q hn f => ?_) fun _ s' hq => wpAny_pure (wpAny_pure hq))
  obtain ⟨f0, f1, f2, f3, f4, f5⟩ := f
  show wpAny _ _ (assign (.Name y py) X.env (.ref L)) _ _ _
  refine wpAny_assign_Name (store_ok2 (v := V.ref L) I' hN hy (.inl hyl) rfl (fun s2 I2 hst => ?_) (.inr hyl))
  obtain ⟨a, sb, ha⟩ := hst
  have nCa : C ≠ a := by
    rcases ha with z | z
    · rw [z]
      exact f1
    · exact fun e => f4 y a z e.symm
  refine ⟨m, hn.sameBut sb nCa, fun h3 sb3 => ⟨_, H', I2.turned (t' := s2.toks) (fun b o nb e => ?_) f0 f1 f3 f4 f5, q⟩⟩
  exact (sb3.2 b nb).trans e
/-- d.update(e), both dicts of plain keys -/
def rDUpd : V → List V → Hp → VK → Prop := fun x xs H Q => ∃ d o kvs more, x = .ref d ∧ xs = [.ref o] ∧ d ≠ o ∧ H d = some (.dK kvs) ∧ H o = some (.dK more) ∧ kvs.length + more.length ≤ sizeLine ∧ Q .non (upd H d (.dK (mergeK kvs more)))
theorem length_mergeK : ∀ (more kvs : List (Key × V)), (mergeK kvs more).length ≤ kvs.length + more.length
  | [], _ => Nat.le_refl _
  | p :: more, kvs => by
    have h1 := length_putK kvs p.1 p.2
    have h2 := length_mergeK more (putK kvs p.1 p.2)
    show (mergeK (putK kvs p.1 p.2) more).length ≤ kvs.length + (more.length + 1)
    omega
theorem mt_dupd : MtR X "dict.update" rDUpd := by
  intro pins s σ H x xs v us Q I rx rs h
  obtain ⟨d, o, kvs, more, rfl, rfl, hne, hd, ho, hz, q⟩ := h
  obtain rfl : v = Value.ref d := rx
  obtain rfl := Vals.ref1 rs
  obtain ⟨z1, sd, vs, r1, D1⟩ := dk_of I.hok hd
  obtain ⟨z2, so, ws, r2, D2⟩ := dk_of I.hok ho
  refine call_meetsIn PySem.F.slot_dict_update D1.typeIs PySem.F.entry_dict_update (PySem.F.args_dict_update_2 _ _) (meets_dict_update (mixKind X.prog X.w) d o hne so) ⟨vs, ws, D1, D2, ?_, fun h' hm _ sb => ?_⟩
  · rw [← r1.length, ← r2.length]
    exact hz
  · have ex : ∃ p, h'.get? d = some p := by
      obtain ⟨p, _, _, hp, _⟩ := hm
      exact ⟨p, hp⟩
    exact ⟨.non, _, d_write (t' := s.toks) I (by rw [hd]; exact True.intro) sb ex (dk_new (Nat.le_trans (length_mergeK more kvs) hz) sd (KV.merge r2 r1) hm), rfl, q⟩
end
end K48
set_option maxHeartbeats 4000000
set_option linter.all false
/-! sets of cells as dicts; a general walk within a comprehension -/
namespace K48
open PySem L2
theorem it_loop {J : It} {n : Nat} {G : Hp → Prop} {Y : Nat → Hp → V → Hp → Prop} (w : Walk J n G Y) {Stop : Hp → Prop} {T : (Hp → Prop) → V → Hp → Prop} {H0 : Hp} (Pv : Nat → Hp → Prop) (h0 : Pv 0 H0) (hG : ∀ i H, i ≤ n → Pv i H → G H)
    (hs : ∀ i x H H', i < n → Pv i H → Y i H x H' → T (Pv (i + 1)) x H') (hd : ∀ H, Pv n H → Stop H) :
    ∃ W : Nat → Nat → Hp → Prop, (∃ m, W 0 m H0) ∧ ∀ i m H, W i m H → (J.stop i H ∧ Stop H) ∨ (J.go i H ∧ ∃ Nx : Hp → Prop, (∀ H', Nx H' → ∃ m', m' < m ∧ W (i + 1) m' H') ∧ ∀ x H', J.yld i H x H' → T Nx x H') := by
  refine ⟨fun i m H => m + i = n ∧ Pv i H, ⟨n, by simp, h0⟩, ?_⟩
  rintro i m H ⟨hm, p⟩
  have hi : i ≤ n := by omega
  cases m with
  | zero =>
    have e : i = n := by omega
    subst e
    exact .inl ⟨w.stops H (hG i H hi p), hd H p⟩
  | succ m =>
    have hlt : i < n := by omega
    exact .inr ⟨w.goes i H hlt (hG i H hi p), Pv (i + 1), fun H' p' => ⟨m, Nat.lt_succ_self m, by omega, p'⟩, fun x H' y => hs i x H H' hlt p (w.yields i H x H' hlt (hG i H hi p) y)⟩
/-! sets of cells -/
def has (kvs : List (Key × V)) (c : Int) : Prop := (.inl c, V.bl true) ∈ kvs
def DSet (kvs : List (Key × V)) : Prop := (∀ p ∈ kvs, ∃ c, p = (.inl c, V.bl true)) ∧ (kvs.map Prod.fst).Nodup
instance (kvs : List (Key × V)) (c : Int) : Decidable (has kvs c) := by
  refine decidable_of_iff ((kvs.any fun p => match p with | (.inl d, .bl true) => decide (d = c) | _ => false) = true) ?_
  rw [List.any_eq_true]
  constructor
  · rintro ⟨p, hp, h⟩
    split at h
    · rw [decide_eq_true_eq] at h
      subst h
      exact hp
    · cases h
  · intro h
    exact ⟨_, h, by simp⟩
theorem dset_nil : DSet [] := ⟨fun p hp => (by cases hp), List.nodup_nil⟩
theorem has_nil (c : Int) : ¬ has [] c := fun h => by cases h
theorem has_val {kvs : List (Key × V)} (h : DSet kvs) (c : Int) : valV kvs (.inl c) = if has kvs c then some (.bl true) else none := by
  obtain ⟨h1, h2⟩ := h
  induction kvs with
  | nil => rfl
  | cons p kvs ih =>
    obtain ⟨d, rfl⟩ := h1 p (List.mem_cons_self ..)
    rw [List.map_cons, List.nodup_cons] at h2
    by_cases e : d = c
    · subst e
      rw [valV_pos rfl, if_pos (show has _ d from List.mem_cons_self ..)]
    · rw [valV_neg (fun z => e (Sum.inl.inj z)), ih (fun q hq => h1 q (List.mem_cons_of_mem _ hq)) h2.2]
      have : has ((.inl d, .bl true) :: kvs) c ↔ has kvs c := by
        constructor
        · intro z
          rcases List.mem_cons.mp z with z | z
          · cases z
            exact absurd rfl e
          · exact z
        · exact fun z => List.mem_cons_of_mem _ z
      by_cases z : has kvs c
      · rw [if_pos z, if_pos (this.mpr z)]
      · rw [if_neg z, if_neg (fun q => z (this.mp q))]
theorem mem_keys {kvs : List (Key × V)} (h : DSet kvs) (c : Int) : (.inl c : Key) ∈ kvs.map Prod.fst ↔ has kvs c := by
  constructor
  · intro m
    obtain ⟨p, hp, e⟩ := List.mem_map.mp m
    obtain ⟨d, rfl⟩ := h.1 p hp
    cases e
    exact hp
  · intro m
    exact List.mem_map.mpr ⟨_, m, rfl⟩
theorem dset_put {kvs : List (Key × V)} (h : DSet kvs) (c : Int) : DSet (putK kvs (.inl c) (.bl true)) ∧ ∀ d, has (putK kvs (.inl c) (.bl true)) d ↔ has kvs d ∨ d = c := by
  by_cases e : has kvs c
  · have same : putK kvs (.inl c) (.bl true) = kvs := by
      unfold putK
      rw [if_pos (by rw [List.any_eq_true]; exact ⟨_, e, by simp⟩)]
      conv => rhs; rw [← List.map_id kvs]
      refine List.map_congr_left fun p hp => ?_
      obtain ⟨d, rfl⟩ := h.1 p hp
      split <;> rfl
    rw [same]
    refine ⟨h, fun d => ⟨.inl, ?_⟩⟩
    rintro (z | rfl)
    · exact z
    · exact e
  · have new : putK kvs (.inl c) (.bl true) = kvs ++ [(.inl c, .bl true)] := putK_new _ (by rw [has_val h, if_neg e])
    rw [new]
    refine ⟨⟨fun p hp => ?_, ?_⟩, fun d => ?_⟩
    · rcases List.mem_append.mp hp with q | q
      · exact h.1 p q
      · exact ⟨c, List.mem_singleton.mp q⟩
    · rw [List.map_append, List.nodup_append]
      refine ⟨h.2, by simp, fun a ha b hb => ?_⟩
      rw [List.map_singleton, List.mem_singleton] at hb
      subst hb
      rintro rfl
      exact e ((mem_keys h c).mp ha)
    · unfold has
      rw [List.mem_append, List.mem_singleton]
      constructor
      · rintro (z | z)
        · exact .inl z
        · cases z
          exact .inr rfl
      · rintro (z | rfl)
        · exact .inl z
        · exact .inr rfl
theorem dset_merge {more : List (Key × V)} (hm : ∀ p ∈ more, ∃ c, p = (.inl c, V.bl true)) : ∀ {kvs : List (Key × V)}, DSet kvs → DSet (mergeK kvs more) ∧ ∀ d, has (mergeK kvs more) d ↔ has kvs d ∨ has more d := by
  induction more with
  | nil => exact fun {kvs} h => ⟨h, fun d => ⟨.inl, fun z => z.elim id fun q => by cases q⟩⟩
  | cons p more ih =>
    intro kvs h
    obtain ⟨c, rfl⟩ := hm p (List.mem_cons_self ..)
    obtain ⟨h1, h2⟩ := dset_put h c
    obtain ⟨h3, h4⟩ := ih (fun q hq => hm q (List.mem_cons_of_mem _ hq)) h1
    refine ⟨h3, fun d => ?_⟩
    show has (mergeK (putK kvs (.inl c) (.bl true)) more) d ↔ _
    rw [h4, h2]
    constructor
    · rintro ((z | rfl) | z)
      · exact .inl z
      · exact .inr (List.mem_cons_self ..)
      · exact .inr (List.mem_cons_of_mem _ z)
    · rintro (z | z)
      · exact .inl (.inl z)
      · rcases List.mem_cons.mp z with z | z
        · cases z
          exact .inl (.inr rfl)
        · exact .inr z
/-- as many keys, all of one in the other: alike -/
theorem sub_len {α : Type} [DecidableEq α] : ∀ {a b : List α}, a.Nodup → (∀ k ∈ a, k ∈ b) → a.length ≤ b.length
  | [], _, _, _ => Nat.zero_le _
  | k :: a, b, hn, hs => by
    rw [List.nodup_cons] at hn
    have hk := hs k (List.mem_cons_self ..)
    have h1 : ∀ j ∈ a, j ∈ b.erase k := fun j hj => (List.mem_erase_of_ne (fun z => hn.1 (by rw [← z]; exact hj))).mpr (hs j (List.mem_cons_of_mem _ hj))
    have h2 := sub_len hn.2 h1
    rw [List.length_erase_of_mem hk] at h2
    have h3 : 0 < b.length := List.length_pos_of_mem hk
    rw [List.length_cons]
    omega
theorem sub_eq {α : Type} [DecidableEq α] {a b : List α} (ha : a.Nodup) (hs : ∀ k ∈ a, k ∈ b) (hl : b.length ≤ a.length) : ∀ k ∈ b, k ∈ a := fun k hk => by
  by_cases e : k ∈ a
  · exact e
  · have h1 : ∀ j ∈ a, j ∈ b.erase k := fun j hj => (List.mem_erase_of_ne (fun z => e (by rw [← z]; exact hj))).mpr (hs j hj)
    have h2 := sub_len ha h1
    rw [List.length_erase_of_mem hk] at h2
    have h3 : 0 < b.length := List.length_pos_of_mem hk
    omega
/-- a grown set against what it was: unlike by the sizes, or alike -/
theorem grown {new old : List (Key × V)} (hn : DSet new) (ho : DSet old) (hs : ∀ c, has old c → has new c) :
    (new.length ≠ old.length ∧ ∃ c, has new c ∧ ¬ has old c) ∨ (new.length = old.length ∧ (∀ p ∈ new, valV old p.1 = some p.2 ∧ flatB p.2 = true) ∧ ∀ c, has new c ↔ has old c) := by
  have hsub : ∀ k ∈ old.map Prod.fst, k ∈ new.map Prod.fst := fun k hk => by
    obtain ⟨p, hp, rfl⟩ := List.mem_map.mp hk
    obtain ⟨c, rfl⟩ := ho.1 p hp
    exact (mem_keys hn c).mpr (hs c hp)
  by_cases e : new.length = old.length
  · have back := sub_eq ho.2 hsub (by simp; omega)
    have hb : ∀ c, has new c → has old c := fun c h => (mem_keys ho c).mp (back _ ((mem_keys hn c).mpr h))
    refine .inr ⟨e, fun p hp => ?_, fun c => ⟨hb c, hs c⟩⟩
    obtain ⟨c, rfl⟩ := hn.1 p hp
    exact ⟨by rw [has_val ho, if_pos (hb c hp)], rfl⟩
  · refine .inl ⟨e, ?_⟩
    by_cases z : ∃ c, has new c ∧ ¬ has old c
    · exact z
    · exfalso
      apply e
      have h1 : ∀ k ∈ new.map Prod.fst, k ∈ old.map Prod.fst := fun k hk => by
        obtain ⟨p, hp, rfl⟩ := List.mem_map.mp hk
        obtain ⟨c, rfl⟩ := hn.1 p hp
        refine (mem_keys ho c).mpr ?_
        by_cases q : has old c
        · exact q
        · exact absurd ⟨c, hp, q⟩ z
      have l1 := sub_len hn.2 h1
      have l2 := sub_len ho.2 hsub
      simp at l1 l2
      omega
/-- what is not yet in it, of U -/
def lack (U : List Int) (kvs : List (Key × V)) : Nat := (U.filter fun c => decide (¬ has kvs c)).length
theorem filter_le {α : Type} {p q : α → Bool} (h : ∀ x, p x = true → q x = true) : ∀ l : List α, (l.filter p).length ≤ (l.filter q).length
  | [] => Nat.le_refl _
  | x :: l => by
    have ih := filter_le h l
    by_cases e : p x = true
    · rw [List.filter_cons_of_pos e, List.filter_cons_of_pos (h x e)]
      simp only [List.length_cons]
      omega
    · rw [List.filter_cons_of_neg e]
      by_cases e2 : q x = true
      · rw [List.filter_cons_of_pos e2]
        simp only [List.length_cons]
        omega
      · rw [List.filter_cons_of_neg e2]
        exact ih
theorem filter_lt {α : Type} {p q : α → Bool} (h : ∀ x, p x = true → q x = true) : ∀ {l : List α} {x : α}, x ∈ l → p x = false → q x = true → (l.filter p).length < (l.filter q).length
  | y :: l, x, hm, hp, hq => by
    rcases List.mem_cons.mp hm with rfl | hm
    · have := filter_le h l
      rw [List.filter_cons_of_pos hq, List.filter_cons_of_neg (by rw [hp]; decide)]
      simp only [List.length_cons]
      omega
    · have ih := filter_lt h hm hp hq
      by_cases e : p y = true
      · rw [List.filter_cons_of_pos e, List.filter_cons_of_pos (h y e)]
        simp only [List.length_cons]
        omega
      · rw [List.filter_cons_of_neg e]
        by_cases e2 : q y = true
        · rw [List.filter_cons_of_pos e2]
          simp only [List.length_cons]
          omega
        · rw [List.filter_cons_of_neg e2]
          exact ih
theorem lack_le {U : List Int} {new old : List (Key × V)} (hs : ∀ c, has old c → has new c) : lack U new ≤ lack U old :=
  filter_le (fun c h => by rw [decide_eq_true_eq] at h ⊢; exact fun z => h (hs c z)) U
theorem lack_lt {U : List Int} {new old : List (Key × V)} (hs : ∀ c, has old c → has new c) {c : Int} (hU : c ∈ U) (h1 : has new c) (h2 : ¬ has old c) : lack U new < lack U old :=
  filter_lt (fun c h => by rw [decide_eq_true_eq] at h ⊢; exact fun z => h (hs c z)) hU (by simp [h1]) (by simp [h2])
def lacks (U : List Int) (n : Nat) (k : Nat → List (Key × V)) : Nat := match n with
  | 0 => 0
  | n + 1 => lacks U n k + lack U (k n)
theorem lacks_le {U : List Int} : ∀ {n : Nat} {k j : Nat → List (Key × V)}, (∀ i, i < n → lack U (k i) ≤ lack U (j i)) → lacks U n k ≤ lacks U n j
  | 0, _, _, _ => Nat.le_refl _
  | n + 1, k, j, h => by
    have h1 := lacks_le (n := n) fun i hi => h i (by omega)
    have h2 := h n (by omega)
    show lacks U n k + lack U (k n) ≤ lacks U n j + lack U (j n)
    omega
theorem lacks_lt {U : List Int} : ∀ {n : Nat} {k j : Nat → List (Key × V)}, (∀ i, i < n → lack U (k i) ≤ lack U (j i)) → ∀ {i : Nat}, i < n → lack U (k i) < lack U (j i) → lacks U n k < lacks U n j
  | n + 1, k, j, h, i, hi, hl => by
    show lacks U n k + lack U (k n) < lacks U n j + lack U (j n)
    have h1 := h n (by omega)
    by_cases e : i = n
    · subst e
      have h2 := lacks_le (n := i) fun i' hi' => h i' (by omega)
      omega
    · have h2 := lacks_lt (n := n) (fun i' hi' => h i' (by omega)) (show i < n by omega) hl
      omega
end K48
set_option maxHeartbeats 8000000
set_option linter.all false
/-! wanted_behind -/
namespace K48
open PySem L2
/-- what a row wants ahead of it, from what is wanted behind -/
def Fi (rows : List MR) (A : Nat → Int → Prop) (i : Nat) (c : Int) : Prop := ∃ m, rows[i]? = some m ∧ (c ∈ m.reads ∨ (m.lays ≠ some c ∧ ∃ s ∈ nexts rows i, A s c))
theorem Fi.mono {rows : List MR} {A B : Nat → Int → Prop} {i : Nat} {c : Int} (h : Fi rows A i c) (s : ∀ j ∈ nexts rows i, ∀ d, A j d → B j d) : Fi rows B i c := by
  obtain ⟨m, h1, h2 | ⟨h2, j, h3, h4⟩⟩ := h
  · exact ⟨m, h1, .inl h2⟩
  · exact ⟨m, h1, .inr ⟨h2, j, h3, s j h3 c h4⟩⟩
/-- sets of cells, one a row, in the heap -/
def SetsAt (H : Hp) (l : Addr) (n : Nat) (k : Nat → List (Key × V)) : Prop := ∃ as : List Addr, H l = some (.lst (as.map V.ref)) ∧ as.length = n ∧ ∀ (i : Nat) (a : Addr), as[i]? = some a → H a = some (.dK (k i)) ∧ DSet (k i)
theorem SetsAt.get {H : Hp} {l : Addr} {n : Nat} {k : Nat → List (Key × V)} (h : SetsAt H l n k) {i : Nat} (hi : i < n) : ∃ (xs : List V) (a : Addr), H l = some (.lst xs) ∧ xs[i]? = some (.ref a) ∧ H a = some (.dK (k i)) ∧ DSet (k i) := by
  obtain ⟨as, h1, h2, h3⟩ := h
  have e : as[i]? = some (as[i]'(by omega)) := List.getElem?_eq_getElem (by omega)
  obtain ⟨h4, h5⟩ := h3 i _ e
  exact ⟨_, _, h1, by rw [List.getElem?_map, e]; rfl, h4, h5⟩
theorem SetsAt.mono {H H' : Hp} {l : Addr} {n : Nat} {k : Nat → List (Key × V)} (h : SetsAt H l n k) (s : ∀ b o, H b = some o → (b = l ∨ ∃ u, o = .dK u) → H' b = some o) : SetsAt H' l n k := by
  obtain ⟨as, h1, h2, h3⟩ := h
  exact ⟨as, s _ _ h1 (.inl rfl), h2, fun i a e => ⟨s _ _ (h3 i a e).1 (.inr ⟨_, rfl⟩), (h3 i a e).2⟩⟩
theorem SetsAt.put {H : Hp} {l : Addr} {n : Nat} {k : Nat → List (Key × V)} (h : SetsAt H l n k) {i : Nat} {d : Addr} {u : List (Key × V)} (hd : H d = some (.dK u)) (hu : DSet u) :
    ∃ xs, H l = some (.lst xs) ∧ xs.length = n ∧ SetsAt (upd H l (.lst (xs.set i (.ref d)))) l n (fun j => if j = i then u else k j) := by
  obtain ⟨as, h1, h2, h3⟩ := h
  refine ⟨_, h1, by rw [List.length_map, h2], as.set i d, by rw [upd_same, ← List.map_set], by rw [List.length_set, h2], fun j a e => ?_⟩
  have nd : ∀ {b : Addr} {v : List (Key × V)}, H b = some (.dK v) → b ≠ l := fun e => ne_of e h1 (by intro z; cases z)
  by_cases ej : j = i
  · subst ej
    have hlt : j < as.length := by
      have := (List.getElem?_eq_some_iff.mp e).1
      simpa using this
    rw [List.getElem?_set_self hlt] at e
    cases e
    dsimp only
    rw [if_pos rfl]
    exact ⟨by rw [upd_ne (nd hd)]; exact hd, hu⟩
  · rw [List.getElem?_set_ne (fun z => ej z.symm)] at e
    obtain ⟨h4, h5⟩ := h3 j a e
    dsimp only
    rw [if_neg ej]
    exact ⟨by rw [upd_ne (nd h4)]; exact h4, h5⟩
theorem sq_lock {K : PySem.W.Frag} {H : Hp} {a d : Addr} {xs : List V} {u : HO} {od : Obj} (h : H a = some (.lst xs)) (hd : H d = some u) : SqL K (upd H d (.frz od u)) a xs := by
  by_cases e : a = d
  · subst e
    rw [h] at hd
    cases hd
    exact .inl (.inr ⟨od, upd_same⟩)
  · exact .inl (.inl (by rw [upd_ne e]; exact h))
theorem sqL_same {K : PySem.W.Frag} {H H' : Hp} {a : Addr} {xs : List V} (s : Same H H') (h : SqL K H a xs) : SqL K H' a xs := by
  rcases h with (h | ⟨o, h⟩) | h
  · exact .inl (.inl (s _ _ h))
  · exact .inl (.inr ⟨o, s _ _ h⟩)
  · exact .inr h
theorem ixN_nat {n i : Nat} (h : i < n) : ixN n (i : Int) = some i := by
  unfold ixN
  rw [if_pos (by omega), if_pos (by omega)]
  simp
theorem sq_lock2 {K : PySem.W.Frag} {H : Hp} {a d1 d2 : Addr} {xs : List V} {u1 u2 : HO} {o1 o2 : Obj} (h : H a = some (.lst xs)) (h1 : H d1 = some u1) (h2 : H d2 = some u2) (hne : d2 ≠ d1) :
    SqL K (upd (upd H d1 (.frz o1 u1)) d2 (.frz o2 u2)) a xs := by
  by_cases e : a = d2
  · subst e
    rw [h] at h2
    cases h2
    exact .inl (.inr ⟨o2, upd_same⟩)
  · by_cases e1 : a = d1
    · subst e1
      rw [h] at h1
      cases h1
      exact .inl (.inr ⟨o1, by rw [upd_ne e, upd_same]⟩)
    · exact .inl (.inl (by rw [upd_ne e, upd_ne e1]; exact h))
theorem frz_lock2 {H : Hp} {a d1 d2 : Addr} {u u1 u2 : HO} {o1 o2 : Obj} (h : H a = some u) (h1 : H d1 = some u1) (h2 : H d2 = some u2) (hne : d2 ≠ d1) (ha : a = d1 ∨ a = d2) :
    ∃ o, (upd (upd H d1 (.frz o1 u1)) d2 (.frz o2 u2)) a = some (.frz o u) := by
  rcases ha with rfl | rfl
  · rw [h] at h1
    cases h1
    exact ⟨o1, by rw [upd_ne hne.symm, upd_same]⟩
  · rw [h] at h2
    cases h2
    exact ⟨o2, upd_same⟩
theorem nexts_len (rows : List MR) (i : Nat) : (nexts rows i).length ≤ 2 := by
  have h1 : ∀ o : Option Nat, o.toList.length ≤ 1 := fun o => by cases o <;> simp
  unfold nexts
  split
  · exact Nat.le_trans (h1 _) (by decide)
  · rw [List.length_cons]
    rename_i c k _
    have := h1 (spotOf rows k)
    omega
  all_goals simp
/-- two things to lock, all of L among them -/
theorem pick {H : Hp} {L : List Addr} {f g : Addr} {uf ug : HO} (hl : L.length ≤ 2) (hL : ∀ a ∈ L, ∃ k, H a = some (.dK k)) (hf : H f = some uf) (hg : H g = some ug) (mf : ∃ xs, uf = .lst xs) (mg : ∃ xs, ug = .lst xs) (hfg : g ≠ f) :
    ∃ d1 u1 d2 u2, H d1 = some u1 ∧ Mut (some u1) ∧ d2 ≠ d1 ∧ H d2 = some u2 ∧ Mut (some u2) ∧ ∀ a ∈ L, a = d1 ∨ a = d2 := by
  obtain ⟨xf, rfl⟩ := mf
  obtain ⟨xg, rfl⟩ := mg
  match L with
  | [] => exact ⟨f, _, g, _, hf, True.intro, hfg, hg, True.intro, fun a h => by cases h⟩
  | [a] =>
    obtain ⟨k, hk⟩ := hL a (by simp)
    exact ⟨a, _, f, _, hk, True.intro, ne_of hf hk (by intro z; cases z), hf, True.intro, fun b h => .inl (List.mem_singleton.mp h)⟩
  | [a, b] =>
    obtain ⟨k, hk⟩ := hL a (by simp)
    obtain ⟨j, hj⟩ := hL b (by simp)
    by_cases e : b = a
    · subst e
      exact ⟨b, _, f, _, hk, True.intro, ne_of hf hk (by intro z; cases z), hf, True.intro, fun c h => by simp at h; exact .inl h⟩
    · exact ⟨a, _, b, _, hk, True.intro, e, hj, True.intro, fun c h => by simpa using h⟩
  | _ :: _ :: _ :: _ => simp at hl
theorem dset_len {kvs : List (Key × V)} {U : List Int} (h : DSet kvs) (hs : ∀ c, has kvs c → c ∈ U) : kvs.length ≤ U.length := by
  have : ∀ k ∈ kvs.map Prod.fst, k ∈ U.map (Sum.inl : Int → Key) := fun k hk => by
    obtain ⟨p, hp, rfl⟩ := List.mem_map.mp hk
    obtain ⟨c, rfl⟩ := h.1 p hp
    exact List.mem_map.mpr ⟨c, hs c hp, rfl⟩
  have := sub_len h.2 this
  simpa using this
theorem flat_len {rows : List MR} (h : ∀ m ∈ rows, m.reads.length ≤ 3) : (rows.flatMap MR.reads).length ≤ 3 * rows.length := by
  induction rows with
  | nil => simp
  | cons m rows ih =>
    rw [List.flatMap_cons, List.length_append, List.length_cons]
    have h1 := h m (List.mem_cons_self ..)
    have h2 := ih fun m hm => h m (List.mem_cons_of_mem _ hm)
    omega
/-- the loop's things -/
structure WSt (H H' : Hp) (rows : List MR) (U : List Int) (al fl : Addr) (kA kF : Nat → List (Key × V)) : Prop where
  same : Same H H'
  ahead : SetsAt H' al rows.length kA
  found : SetsAt H' fl rows.length kF
  inU : ∀ i, i < rows.length → ∀ c, has (kA i) c → c ∈ U
  less : ∀ i, i < rows.length → ∀ c, has (kA i) c → Fi rows (fun j d => has (kA j) d) i c
/-- what the end knows -/
def FoundAt (H : Hp) (fl : Addr) (rows : List MR) : Prop := ∃ (live : Nat → Int → Prop) (k : Nat → List (Key × V)), SetsAt H fl rows.length k ∧
  (∀ i, i < rows.length → ∀ c, has (k i) c ↔ ∃ s ∈ nexts rows i, live s c) ∧ ∀ i, i < rows.length → ∀ c, Fi rows live i c → live i c
section
variable {P : Program} {w : World} {K : PySem.W.Frag} {mg : Str → Option Value} {base : Heap} {aO aL : Addr}
def spWanted : Sp := fun vs H Q _ => ∃ (rt : Addr) (vs0 : List V) (rows : List MR), vs = [.ref rt] ∧ H rt = some (.tup vs0) ∧ Paired (RowV H) vs0 rows ∧ rows.length ≤ 700 ∧ LabUniq rows ∧ TargetsOk rows ∧
  (∀ i, i < rows.length → ∀ s ∈ nexts rows i, s < rows.length) ∧ (∀ m ∈ rows, m.reads.length ≤ 3) ∧
  ∀ (fl : Addr) (H' : Hp), Same H H' → FoundAt H' fl rows → Q (.ref fl) H'
theorem scWanted : FnScope ["rows", "behind", "ahead", "found", "is_done", "number", "row", "some", "here", "other", "cell"] ["rows"] (defScope (topS 6)) := ⟨rfl, rfl, rfl, by decide +kernel, rfl, by decide +kernel, by decide +kernel⟩
theorem fn_wanted {f : Addr} {fd : FuncData} (F : Fun K "wanted_behind" "wanted_behind" (topS 6) f fd) (T : Blt K mg aO aL)
    (D_behind_of : Dfn P w K mg base "behind_of" 1 ["rows"] spBehind)
    (D_read_by : Dfn P w K mg base "read_by" 1 ["row"] spReadBy)
    (D_laid_by : Dfn P w K mg base "laid_by" 1 ["row"] spLaidBy) :
    FnOk P w K mg base CX0 2 f fd ["rows"] spWanted := by
  have sc := scWanted
  refine F.ok sc (fun vs H Q E h => ?_) (fun cdv A outer s0 H vs Q E hr h => ?_)
  · obtain ⟨rt, vs0, rows, rfl, _⟩ := h
    rfl
  · obtain ⟨rt, vs0, rows, rfl, hrt, hrows, hlen, huniq, htg, hnx, hrd, k⟩ := h
    have hu := hu_of hr
    have hvs : vs0.length = rows.length := hrows.length
    refine ⟨_,
(pss_cons (ps_set (i := 1) sc.nd rfl (Or.inl rfl) (pe_callD D_behind_of (hr.mono (by omega)) (by rfl) (pa_cons (pv 0) pa_nil)))
(pss_cons (ps_set (i := 2) sc.nd rfl (Or.inr rfl) (pe_lc (own := [("row", 6)]) rfl sc.nd (pi_tup (pv 0)) (blkOk_by (own := [("row", 6)]) (N := ["rows", "behind", "ahead", "found", "is_done", "number", "row", "some", "here", "other", "cell"]) (sc := defScope (topS 6)) (by decide +kernel)) (fun _ _ _ _ _ => (pg_name (i := 6) sc.nd rfl (Or.inl rfl))) (fun _ _ _ _ _ => pts_nil) (fun _ _ _ _ _ => pe_dnewK)))
(pss_cons (ps_setLc (i := 3) (own := [("row", 6)]) rfl sc.nd rfl rfl (sw_true rfl rfl rfl (by decide +kernel)) (pi_tup (pv 0)) (blkOk_by (own := [("row", 6)]) (N := ["rows", "behind", "ahead", "found", "is_done", "number", "row", "some", "here", "other", "cell"]) (sc := defScope (topS 6)) (by decide +kernel)) (fun _ _ _ _ _ => (pg_name (i := 6) sc.nd rfl (Or.inl rfl))) (fun _ _ _ _ _ => pts_nil) (fun _ _ _ _ _ => pe_dnewK))
(pss_cons (ps_set (i := 4) sc.nd rfl (Or.inl rfl) pe_bl)
(pss_cons (ps_while PassesOwn.never (pt_not (pt_val (pv 4)))
(pss_cons (ps_set (i := 4) sc.nd rfl (Or.inl rfl) pe_bl)
(pss_one (ps_for PassesOwn.never rfl (pi_range3 (by rfl) T.range (pa_cons (pe_op op_sub (pe_callB (call_len) (by rfl) T.len PySem.boot_len (pa_cons (pv 0) pa_nil)) pe_int) (pa_cons (pe_un un_neg pe_int) (pa_cons (pe_un un_neg pe_int) pa_nil)))) (pg_name (i := 5) sc.nd rfl (Or.inr rfl))
(pss_cons (ps_lock (ps_lock (ps_setDc2 (i := 7) (own := [("other", 9), ("cell", 10)]) (vs1 := [10]) rfl sc.nd rfl rfl (swd_true rfl rfl rfl (by decide +kernel)) (pi_list (pe_ix ix_list (pv 1) (pv 5) (fun _ _ => rfl))) (blkOk_by (own := [("other", 9), ("cell", 10)]) (N := ["rows", "behind", "ahead", "found", "is_done", "number", "row", "some", "here", "other", "cell"]) (sc := defScope (topS 6)) (by decide +kernel)) (by decide) (fun _ _ _ _ _ => (pg_name (i := 9) sc.nd rfl (Or.inl rfl))) (fun _ _ _ _ _ => (pv 10)) (fun _ _ _ _ _ => pe_bl) (fun _ _ _ _ _ => (pi_keys (pe_ix (r := rIxL K) ix_list (pv 2) (pv 9) (fun _ _ => rfl)))) (fun _ _ _ _ _ => (pg_name (i := 10) sc.nd rfl (Or.inl rfl))))))
(pss_cons (ps_lock (ps_setDc (i := 8) (own := [("cell", 10)]) rfl sc.nd rfl rfl (swd_true rfl rfl rfl (by decide +kernel)) (pi_keys (pv 7)) (blkOk_by (own := [("cell", 10)]) (N := ["rows", "behind", "ahead", "found", "is_done", "number", "row", "some", "here", "other", "cell"]) (sc := defScope (topS 6)) (by decide +kernel)) (fun _ _ _ _ _ => (pg_name (i := 10) sc.nd rfl (Or.inl rfl))) (fun _ _ _ _ _ => (pts_one (pt_cmpR op_ne (pv 10) (pe_callD D_laid_by (hr.mono (by omega)) (by rfl) (pa_cons (pe_ix (r := rIxT K) ix_tup (pv 0) (pv 5) (fun _ _ => rfl)) pa_nil)) (nomark _)))) (fun _ _ _ _ _ => (pv 10)) (fun _ _ _ _ _ => pe_bl)))
(pss_cons (ps_expr (pe_bm PySem.F.plainAttrs_dict PySem.F.slot_dict_update PySem.F.type_dict_update mt_dupd (pv 8) (pa_cons (pe_dc (own := [("cell", 10)]) rfl sc.nd (pi_list (pe_callD D_read_by (hr.mono (by omega)) (by rfl) (pa_cons (pe_ix ix_tup (pv 0) (pv 5) (fun _ _ => rfl)) pa_nil))) (blkOk_by (own := [("cell", 10)]) (N := ["rows", "behind", "ahead", "found", "is_done", "number", "row", "some", "here", "other", "cell"]) (sc := defScope (topS 6)) (by decide +kernel)) (fun _ _ _ _ _ => (pg_name (i := 10) sc.nd rfl (Or.inl rfl))) (fun _ _ _ _ _ => pts_nil) (fun _ _ _ _ _ => (pv 10)) (fun _ _ _ _ _ => pe_bl)) pa_nil)))
(pss_cons (ps_if (pt_cmpR (op_neDB hr.units0) (pv 8) (pe_ix ix_list (pv 2) (pv 5) (fun _ _ => rfl)) (nomark _))
(pss_one (ps_set (i := 4) sc.nd rfl (Or.inl rfl) pe_bl))
pss_nil)
(pss_cons (ps_asg (pv 8) (pg_sub (pv 2) (pv 5) set_list))
(pss_one (ps_asg (pv 7) (pg_sub (pv 3) (pv 5) set_list))))))))))))
(pss_one (ps_ret (pv 3))))))))
    , ?_⟩
    refine ⟨_, rfl, rt, vs0, rows, rfl, hrt, hrows, hlen, huniq, htg, fun bl H1 S1 hbl => ?_⟩
    -- ahead
    refine ⟨_, rfl, rt, rfl, ⟨_, SqT.of (S1 _ _ hrt)⟩, fun al hal => ?_⟩
    refine lc_tup (K := K) (a := rt) (xs := vs0) (fun i H' => ∃ as : List Addr, H' al = some (.lst (as.map V.ref)) ∧ as.length = i ∧ (∀ (j : Nat) (a : Addr), as[j]? = some a → H' a = some (.dK [])) ∧ Same H1 H') ?_ ?_ ?_ ?_
    · exact ⟨[], upd_same, rfl, fun j a e => (by simp at e), same_new hal⟩
    · rintro i H' _ ⟨as, _, _, _, S⟩
      exact SqT.of (S _ _ (S1 _ _ hrt))
    · rintro i x H2 hx ⟨as, h1, h2, h3, S⟩
      have hi := (List.getElem?_eq_some_iff.mp hx).1
      refine ⟨rfl, fun d hd => ⟨_, same_new hd _ _ h1, by rw [List.length_map]; exact szl (by omega), as ++ [d], by rw [upd_same, List.map_append]; rfl, by rw [List.length_append, h2]; rfl, fun j a e => ?_, fun b o e => ?_⟩⟩
      · have nd : d ≠ al := (ne_of_none h1 hd).symm
        rw [List.getElem?_append] at e
        split at e
        · have h4 := h3 j a e
          rw [upd_ne (ne_of h4 h1 (by intro z; cases z))]
          exact same_new hd _ _ h4
        · have hj : d = a := (List.mem_singleton.mp (List.mem_of_getElem? e)).symm
          subst hj
          rw [upd_ne nd, upd_same]
      · rw [upd_ne (ne_of_none e hal)]
        exact same_new hd _ _ (S _ _ e)
    rintro H2 ⟨as, hal2, hasl, has0, S2⟩
    -- found
    refine ⟨_, rfl, rt, rfl, ⟨_, SqT.of ((S1.trans S2) _ _ hrt)⟩, fun fl hfl => ?_⟩
    refine lc_tup (K := K) (a := rt) (xs := vs0) (fun i H' => ∃ as : List Addr, H' fl = some (.lst (as.map V.ref)) ∧ as.length = i ∧ (∀ (j : Nat) (a : Addr), as[j]? = some a → H' a = some (.dK [])) ∧ Same H2 H') ?_ ?_ ?_ ?_
    · exact ⟨[], upd_same, rfl, fun j a e => (by simp at e), same_new hfl⟩
    · rintro i H' _ ⟨as, _, _, _, S⟩
      exact SqT.of (S _ _ ((S1.trans S2) _ _ hrt))
    · rintro i x H3 hx ⟨as, h1, h2, h3, S⟩
      have hi := (List.getElem?_eq_some_iff.mp hx).1
      refine ⟨rfl, fun d hd => ⟨_, same_new hd _ _ h1, by rw [List.length_map]; exact szl (by omega), as ++ [d], by rw [upd_same, List.map_append]; rfl, by rw [List.length_append, h2]; rfl, fun j a e => ?_, fun b o e => ?_⟩⟩
      · have nd : d ≠ fl := (ne_of_none h1 hd).symm
        rw [List.getElem?_append] at e
        split at e
        · have h4 := h3 j a e
          rw [upd_ne (ne_of h4 h1 (by intro z; cases z))]
          exact same_new hd _ _ h4
        · have hj : d = a := (List.mem_singleton.mp (List.mem_of_getElem? e)).symm
          subst hj
          rw [upd_ne nd, upd_same]
      · rw [upd_ne (ne_of_none e hfl)]
        exact same_new hd _ _ (S _ _ e)
    rintro H3 ⟨fs, hfl3, hfsl, hfs0, S3⟩
    -- the loop
    have hU := flat_len hrd
    generalize hUe : rows.flatMap MR.reads = U at hU
    have inU : ∀ (i : Nat) m, rows[i]? = some m → ∀ c ∈ m.reads, c ∈ U := fun i m e c hc => by
      rw [← hUe]
      exact List.mem_flatMap.mpr ⟨m, List.mem_of_getElem? e, hc⟩
    obtain ⟨bs, hbl1, _⟩ := id hbl
    have nba : bl ≠ al := ne_of_none hbl1 hal
    have nbf : bl ≠ fl := ne_of_none (S2 _ _ hbl1) hfl
    have naf : al ≠ fl := ne_of_none hal2 hfl
    have hal0 : H al = none := S1.free hal
    have hfl0 : H fl = none := (S1.trans S2).free hfl
    have st0 : WSt H1 H3 rows U al fl (fun _ => []) (fun _ => []) := by
      refine ⟨S2.trans S3, ⟨as, S3 _ _ hal2, hasl.trans hvs, fun i a e => ⟨S3 _ _ (has0 i a e), dset_nil⟩⟩, ⟨fs, hfl3, hfsl.trans hvs, fun i a e => ⟨hfs0 i a e, dset_nil⟩⟩, fun i _ c h => ?_, fun i _ c h => ?_⟩
      · exact absurd h (has_nil c)
      · exact absurd h (has_nil c)
    refine ⟨fun m σ' H' => ∃ (flag : Bool) (x5 x6 x7 x8 x9 x10 : Option V) (kA kF : Nat → List (Key × V)), σ' = [some (.ref rt), some (.ref bl), some (.ref al), some (.ref fl), some (.bl flag), x5, x6, x7, x8, x9, x10] ∧
      WSt H1 H' rows U al fl kA kF ∧ m = 2 * lacks U rows.length kA + (if flag = true then 0 else 1) ∧
      (flag = true → (∀ i, i < rows.length → ∀ c, has (kF i) c ↔ ∃ s ∈ nexts rows i, has (kA s) c) ∧ ∀ i, i < rows.length → ∀ c, Fi rows (fun j d => has (kA j) d) i c → has (kA i) c), ⟨_, false, _, _, _, _, _, _, _, _, rfl, st0, rfl, fun z => by cases z⟩, ?_⟩
    rintro m σ' H4 ⟨flag, x5, x6, x7, x8, x9, x10, kA, kF, rfl, st, hm, hend⟩
    refine ⟨_, rfl, _, rfl, ?_⟩
    cases flag with
    | true =>
      obtain ⟨e1, e2⟩ := hend rfl
      exact iF rfl ⟨_, rfl, k fl H4 (S1.trans st.same) ⟨fun j d => has (kA j) d, kF, st.found, e1, e2⟩⟩
    | false =>
      refine iT rfl ⟨fun σ' H' => ∃ m', m' < m ∧ ∃ (flag : Bool) (x5 x6 x7 x8 x9 x10 : Option V) (kA kF : Nat → List (Key × V)), σ' = [some (.ref rt), some (.ref bl), some (.ref al), some (.ref fl), some (.bl flag), x5, x6, x7, x8, x9, x10] ∧
        WSt H1 H' rows U al fl kA kF ∧ m' = 2 * lacks U rows.length kA + (if flag = true then 0 else 1) ∧
        (flag = true → (∀ i, i < rows.length → ∀ c, has (kF i) c ↔ ∃ s ∈ nexts rows i, has (kA s) c) ∧ ∀ i, i < rows.length → ∀ c, Fi rows (fun j d => has (kA j) d) i c → has (kA i) c), fun _ _ h => h, ?_⟩
      subst hm
      have hrt4 := (S1.trans st.same) _ _ hrt
      refine ⟨_, rfl, _, vs0.length, rfl, .inr ⟨_, SqT.of hrt4, rfl⟩, _, _, rfl, rfl, _, rfl, _, rfl, _, _, _, rows.length, rfl, ?_, ?_⟩
      · have h := RgC.neg (i := (vs0.length : Int) - 1) (j := -1) (by omega) (by omega) (by omega) (by omega)
        have e : ((vs0.length : Int) - 1 - -1).toNat = rows.length := by omega
        rwa [e] at h
      have kA0 := kA
      refine for_it (walk_rangeC (n := rows.length)) (fun j σ' H' => ∃ (flag : Bool) (x5 x6 x7 x8 x9 x10 : Option V) (k2 kF : Nat → List (Key × V)), σ' = [some (.ref rt), some (.ref bl), some (.ref al), some (.ref fl), some (.bl flag), x5, x6, x7, x8, x9, x10] ∧
        WSt H1 H' rows U al fl k2 kF ∧ lacks U rows.length k2 ≤ lacks U rows.length kA ∧ (flag = false → lacks U rows.length k2 < lacks U rows.length kA) ∧
        (flag = true → (∀ i, i < rows.length → ∀ c, has (k2 i) c ↔ has (kA i) c) ∧ ∀ i, rows.length ≤ i + j → i < rows.length → (∀ c, has (kF i) c ↔ ∃ s ∈ nexts rows i, has (kA s) c) ∧ ∀ c, Fi rows (fun j d => has (kA j) d) i c → has (kA i) c))
        ?_ (fun _ _ _ _ _ => True.intro) ?_ ?_
      · exact ⟨true, x5, x6, x7, x8, x9, x10, kA, kF, rfl, st, Nat.le_refl _, fun z => (by cases z), fun _ => ⟨fun i _ c => Iff.rfl, fun i h1 h2 => by omega⟩⟩
      · rintro j x σ' H5x H5 hj ⟨flag, y5, y6, y7, y8, y9, y10, k2, kF2, rfl, st2, hle, hlt, hcl⟩ ⟨rfl, rfl⟩
        have hx : ((vs0.length : Int) - 1 + ((j : Nat) : Int) * -1) = ((rows.length - 1 - j : Nat) : Int) := by omega
        dsimp only [gName]
        rw [hx]
        clear hx
        obtain ⟨i, hi⟩ : ∃ i, i = rows.length - 1 - j := ⟨_, rfl⟩
        rw [← hi]
        have hin : i < rows.length := by omega
        have em : rows[i]? = some rows[i] := List.getElem?_eq_getElem hin
        obtain ⟨v, hv, ra, rb, rp, rfl, hra, hrb⟩ := paired_at hrows em
        have hnxi := hnx i hin
        have hreads : rows[i].reads.length ≤ 3 := hrd _ (List.getElem_mem hin)
        have hinU := inU i _ em
        generalize rows[i] = m at em hra hrb hreads hinU
        show tSeq _ _ _ [some (.ref rt), some (.ref bl), some (.ref al), some (.ref fl), some (.bl flag), some (.int (i : Int)), y6, y7, y8, y9, y10] H5
        refine seq_cut (fun σ' H' => ∃ (ds : Addr) (kS : List (Key × V)), σ' = [some (.ref rt), some (.ref bl), some (.ref al), some (.ref fl), some (.bl flag), some (.int (i : Int)), y6, some (.ref ds), y8, y9, y10] ∧
          Same H5 H' ∧ H5 ds = none ∧ H' ds = some (.dK kS) ∧ DSet kS ∧ ∀ c, has kS c ↔ ∃ s ∈ nexts rows i, has (k2 s) c) ?_ (fun nx hn => ?_)
        · rintro _ H6 ⟨ds, kS, rfl, S6, hds5, hds6, hkS, hS⟩
          have hrt6 := (S1.trans (st2.same.trans S6)) _ _ hrt
          have hra6 := (S1.trans (st2.same.trans S6)) _ _ hra
          have hrb6 : m.aux H6 rb := by
            cases m <;> first | trivial | exact (S1.trans (st2.same.trans S6)) _ _ hrb
          have subS : ∀ c, has kS c → c ∈ U := fun c h => by
            obtain ⟨s, h1, h2⟩ := (hS c).mp h
            exact st2.inU s (hnxi s h1) c h2
          show tSeq _ _ _ [some (.ref rt), some (.ref bl), some (.ref al), some (.ref fl), some (.bl flag), some (.int (i : Int)), y6, some (.ref ds), y8, y9, y10] H6
          refine seq_cut (fun σ' H' => ∃ (dh : Addr) (kh : List (Key × V)), σ' = [some (.ref rt), some (.ref bl), some (.ref al), some (.ref fl), some (.bl flag), some (.int (i : Int)), y6, some (.ref ds), some (.ref dh), y9, y10] ∧
            Same H6 H' ∧ H6 dh = none ∧ H' dh = some (.dK kh) ∧ DSet kh ∧ ∀ c, has kh c ↔ has kS c ∧ m.lays ≠ some c) ?_ (fun nx hn => ?_)
          · rintro _ H7 ⟨dh, kh, rfl, S7, hdh6, hdh7, hkh, hH⟩
            have hrt7 := S7 _ _ hrt6
            have hra7 := S7 _ _ hra6
            have hrb7 : m.aux H7 rb := by
              cases m <;> first | trivial | exact S7 _ _ hrb6
            show tSeq _ _ _ [some (.ref rt), some (.ref bl), some (.ref al), some (.ref fl), some (.bl flag), some (.int (i : Int)), y6, some (.ref ds), some (.ref dh), y9, y10] H7
            refine seq_cut (fun σ' H' => ∃ (kn : List (Key × V)), σ' = [some (.ref rt), some (.ref bl), some (.ref al), some (.ref fl), some (.bl flag), some (.int (i : Int)), y6, some (.ref ds), some (.ref dh), y9, y10] ∧
              (∀ b o, b ≠ dh → H7 b = some o → H' b = some o) ∧ H' dh = some (.dK kn) ∧ DSet kn ∧ ∀ c, has kn c ↔ Fi rows (fun j d => has (k2 j) d) i c) ?_ (fun nx hn => ?_)
            · rintro _ H8 ⟨kn, rfl, S8, hdh8, hkn, hF⟩
              have old : ∀ b o, H5 b = some o → H8 b = some o := fun b o e => S8 b o (ne_of_none (S6 _ _ e) hdh6) (S7 _ _ (S6 _ _ e))
              have ds8 : H8 ds = some (.dK kS) := S8 _ _ (ne_of_none hds6 hdh6) (S7 _ _ hds6)
              have al8 := st2.ahead.mono fun b o e _ => old b o e
              have fl8 := st2.found.mono fun b o e _ => old b o e
              obtain ⟨xs8, aa, hal8, hai, haa, hda⟩ := al8.get hin
              have grow : ∀ c, has (k2 i) c → has kn c := fun c h => (hF c).mpr (st2.less i hin c h)
              show tSeq _ _ _ [some (.ref rt), some (.ref bl), some (.ref al), some (.ref fl), some (.bl flag), some (.int (i : Int)), y6, some (.ref ds), some (.ref dh), y9, y10] H8
              refine seq_cut (fun σ' H' => ∃ flag2 : Bool, σ' = [some (.ref rt), some (.ref bl), some (.ref al), some (.ref fl), some (.bl flag2), some (.int (i : Int)), y6, some (.ref ds), some (.ref dh), y9, y10] ∧ H' = H8 ∧
                ((flag2 = flag ∧ ∀ c, has kn c ↔ has (k2 i) c) ∨ (flag2 = false ∧ ∃ c, has kn c ∧ ¬ has (k2 i) c))) ?_ (fun nx hn => ?_)
              · rintro _ H9 ⟨flag2, rfl, e9, hfl2⟩
                obtain rfl : H8 = H9 := e9.symm
                obtain ⟨xs9, hal9, hxl9, put1⟩ := al8.put (i := i) hdh8 hkn
                have fl9 := fl8.mono (H' := upd H8 al (.lst (xs9.set i (.ref dh)))) fun b o e hb => by
                  rw [upd_ne]
                  · exact e
                  · rcases hb with rfl | ⟨u, rfl⟩
                    · exact naf.symm
                    · exact ne_of e hal9 (by intro z; cases z)
                have ds9 : (upd H8 al (.lst (xs9.set i (.ref dh)))) ds = some (.dK kS) := (upd_ne (ne_of ds8 hal9 (by intro z; cases z))).trans ds8
                obtain ⟨xs10, hfl10, hxl10, put2⟩ := fl9.put (i := i) ds9 hkS
                have al10 := put1.mono (H' := upd (upd H8 al (.lst (xs9.set i (.ref dh)))) fl (.lst (xs10.set i (.ref ds)))) fun b o e hb => by
                  rw [upd_ne]
                  · exact e
                  · rcases hb with rfl | ⟨u, rfl⟩
                    · exact naf
                    · exact ne_of e hfl10 (by intro z; cases z)
                refine ⟨_, rfl, _, rfl, _, rfl, al, xs9, (i : Int), i, rfl, rfl, hal9, ixN_nat (by omega), ?_⟩
                refine ⟨_, rfl, _, rfl, _, rfl, fl, xs10, (i : Int), i, rfl, rfl, hfl10, ixN_nat (by omega), ?_⟩
                have hk2 : ∀ c, has kn c → c ∈ U := fun c h => by
                  obtain ⟨m', em', h1⟩ := (hF c).mp h
                  rw [em] at em'
                  cases em'
                  rcases h1 with h1 | ⟨_, s, h2, h3⟩
                  · exact hinU c h1
                  · exact st2.inU s (hnxi s h2) c h3
                have more : ∀ j c, has (k2 j) c → has (if j = i then kn else k2 j) c := fun j c h => by
                  by_cases e : j = i
                  · subst e
                    rw [if_pos rfl]
                    exact grow c h
                  · rw [if_neg e]
                    exact h
                refine ⟨flag2, _, _, _, _, _, _, _, _, rfl, ⟨fun b o e => ?_, al10, put2, fun j hj2 c h => ?_, fun j hj2 c h => ?_⟩, ?_, ?_, ?_⟩
                · rw [upd_ne (ne_of_none (S2 _ _ e) hfl), upd_ne (ne_of_none e hal)]
                  exact old _ _ (st2.same _ _ e)
                · by_cases e : j = i
                  · rw [if_pos e] at h
                    exact hk2 c h
                  · rw [if_neg e] at h
                    exact st2.inU j hj2 c h
                · by_cases e : j = i
                  · subst e
                    rw [if_pos rfl] at h
                    exact ((hF c).mp h).mono fun s _ d hd => more s d hd
                  · rw [if_neg e] at h
                    exact (st2.less j hj2 c h).mono fun s _ d hd => more s d hd
                · exact Nat.le_trans (lacks_le fun j _ => lack_le fun c => more j c) hle
                · intro z
                  rcases hfl2 with ⟨h1, h2⟩ | ⟨_, c, h1, h2⟩
                  · have := hlt (h1.symm.trans z)
                    exact Nat.lt_of_le_of_lt (lacks_le fun j _ => lack_le fun c => more j c) this
                  · refine Nat.lt_of_lt_of_le (lacks_lt (fun j _ => lack_le fun c => more j c) hin ?_) hle
                    rw [if_pos rfl]
                    exact lack_lt grow (hk2 c h1) h1 h2
                · intro z
                  rcases hfl2 with ⟨h1, h2⟩ | ⟨h1, _⟩
                  · obtain ⟨c1, c2⟩ := hcl (h1.symm.trans z)
                    have eqA : ∀ j, j < rows.length → ∀ c, has (if j = i then kn else k2 j) c ↔ has (kA j) c := fun j hj2 c => by
                      by_cases e : j = i
                      · subst e
                        rw [if_pos rfl, h2]
                        exact c1 j hj2 c
                      · rw [if_neg e]
                        exact c1 j hj2 c
                    refine ⟨eqA, fun j hj1 hj2 => ?_⟩
                    by_cases e : j = i
                    · subst e
                      rw [if_pos rfl]
                      refine ⟨fun c => ?_, fun c h => ?_⟩
                      · rw [hS]
                        exact ⟨fun ⟨s, q1, q2⟩ => ⟨s, q1, (c1 s (hnxi s q1) c).mp q2⟩, fun ⟨s, q1, q2⟩ => ⟨s, q1, (c1 s (hnxi s q1) c).mpr q2⟩⟩
                      · refine (c1 j hj2 c).mp ((h2 c).mp ((hF c).mpr ?_))
                        exact h.mono fun s q1 d q2 => (c1 s (hnxi s q1) d).mpr q2
                    · rw [if_neg e]
                      exact c2 j (by omega) hj2
                  · rw [h1] at z
                    cases z
              · refine ⟨_, rfl, _, rfl, _, rfl, _, _, _, _, rfl, rfl, SqL.of hal8, atI_nat hai, dh, aa, kn, k2 i, rfl, rfl, hdh8, haa, ?_⟩
                rcases grown hkn hda grow with ⟨h1, h2⟩ | ⟨h1, h2, h3⟩
                · exact .inl ⟨h1, _, rfl, iT rfl (hn _ _ ⟨false, rfl, rfl, .inr ⟨rfl, h2⟩⟩)⟩
                · exact .inr ⟨h1, h2, _, rfl, iF rfl (hn _ _ ⟨flag, rfl, rfl, .inl ⟨rfl, h3⟩⟩)⟩
            · refine ⟨_, rfl, .inr (.inr (.inl ⟨rfl, .inl ⟨_, hdh7⟩⟩)), _, rfl, _, rfl, _, _, _, _, rfl, rfl, SqT.of hrt7, atI_nat hv, _, m, rfl, ⟨ra, rb, rp, rfl, hra7, hrb7⟩, fun H8 p S8 hp7 hp8 => ?_⟩
              refine ⟨p, rfl, ⟨_, SqL.of hp8⟩, fun D hD => ?_⟩
              have hdh8 := S8 _ _ hdh7
              have nDh : dh ≠ D := ne_of_none hdh8 hD
              refine dc_it (walk_list (K := K) (a := p) (xs := m.reads.map V.int)) (fun t H' => ∃ kR, H' D = some (.dK kR) ∧ kR.length ≤ t ∧ DSet kR ∧ (∀ c, has kR c ↔ ∃ t' : Nat, t' < t ∧ m.reads[t']? = some c) ∧ Same H8 H') ?_ ?_ ?_ ?_
              · exact ⟨[], upd_same, Nat.le_refl _, dset_nil, fun c => ⟨fun h => absurd h (has_nil c), fun ⟨t', h, _⟩ => absurd h (by omega)⟩, same_new hD⟩
              · rintro t H' _ ⟨_, _, _, _, _, S⟩
                exact SqL.of (S _ _ hp8)
              · rintro t x H9x H9 ht ⟨kR, hkR, hRl, hset, hR, SR⟩ ⟨rfl, hx⟩
                rw [List.getElem?_map] at hx
                obtain ⟨c, hc, rfl⟩ := Option.map_eq_some_iff.mp hx
                rw [List.length_map] at ht
                obtain ⟨p1, p2⟩ := dset_put hset c
                refine ⟨rfl, _, rfl, kR, .inl c, rfl, hkR, szl (by omega), _, upd_same, Nat.le_trans (length_putK _ _ _) (by omega), p1, fun d => ?_, fun b o e => ?_⟩
                · rw [p2, hR]
                  constructor
                  · rintro (⟨t', h1, h2⟩ | rfl)
                    · exact ⟨t', by omega, h2⟩
                    · exact ⟨t, by omega, hc⟩
                  · rintro ⟨t', h1, h2⟩
                    by_cases e : t' < t
                    · exact .inl ⟨t', e, h2⟩
                    · have e2 : t' = t := by omega
                      subst e2
                      rw [hc] at h2
                      cases h2
                      exact .inr rfl
                · rw [upd_ne (ne_of_none e hD)]
                  exact SR _ _ e
              · rintro H9 ⟨kR, hkR, hRl, hset, hR, SR⟩
                rw [List.length_map] at hRl hR
                have hkl : kh.length ≤ U.length := dset_len hkh fun c h => subS c ((hH c).mp h).1
                obtain ⟨m1, m2⟩ := dset_merge hset.1 hkh
                refine ⟨dh, D, kh, kR, rfl, rfl, nDh, SR _ _ hdh8, hkR, sz (by omega), ?_⟩
                refine hn _ _ ⟨_, rfl, fun b o nb e => by rw [upd_ne nb]; exact SR _ _ (S8 _ _ e), upd_same, m1, fun c => ?_⟩
                rw [m2, hH, hR, hS]
                constructor
                · rintro (⟨h1, h2⟩ | ⟨t', _, h2⟩)
                  · exact ⟨m, em, .inr ⟨h2, h1⟩⟩
                  · exact ⟨m, em, .inl (List.mem_of_getElem? h2)⟩
                · rintro ⟨m', em', h⟩
                  rw [em] at em'
                  cases em'
                  rcases h with h | ⟨h1, h2⟩
                  · obtain ⟨t', ht'⟩ := List.getElem?_of_mem h
                    exact .inr ⟨t', (List.getElem?_eq_some_iff.mp ht').1, ht'⟩
                  · exact .inl ⟨h2, h1⟩
          · refine ⟨ds, _, hds6, True.intro, fun o1 => ?_⟩
            have HLd : (upd H6 ds (.frz o1 (.dK kS))) ds = some (.frz o1 (.dK kS)) := upd_same
            have HLo : ∀ b, b ≠ ds → (upd H6 ds (.frz o1 (.dK kS))) b = H6 b := fun b nb => upd_ne nb
            generalize upd H6 ds (.frz o1 (.dK kS)) = HL at HLd HLo ⊢
            refine ⟨_, rfl, ds, o1, rfl, .inl ⟨kS, HLd, fun D hD => ?_⟩⟩
            have nDs : D ≠ ds := (ne_of_none HLd hD).symm
            have hrtL : HL rt = some (.tup vs0) := (HLo rt (ne_of hrt6 hds6 (by intro z; cases z))).trans hrt6
            have hraL : HL ra = some (.tup (m.pre rb ++ [rp])) := (HLo ra (ne_of hra6 hds6 (by intro z; cases z))).trans hra6
            have hrbL : m.aux HL rb := by
              cases m <;> first | trivial | exact (HLo rb (ne_of hrb6 hds6 (by intro z; cases z))).trans hrb6
            refine dc_it (walk_keys (d := ds) (o := o1) (kvs := kS)) (fun t H' => ∃ kh, H' D = some (.dK kh) ∧ DSet kh ∧ (∀ c, has kh c ↔ m.lays ≠ some c ∧ ∃ t' : Nat, t' < t ∧ kS[t']? = some (.inl c, V.bl true)) ∧ Same HL H') ?_ ?_ ?_ ?_
            · exact ⟨[], upd_same, dset_nil, fun c => ⟨fun h => absurd h (has_nil c), fun ⟨_, t', h, _⟩ => absurd h (by omega)⟩, same_new hD⟩
            · rintro t H' _ ⟨_, _, _, _, S⟩
              exact S _ _ HLd
            · rintro t x H7x H7 ht ⟨kh, hkh, hset, hH, SL⟩ ⟨rfl, kx, vx, hkx, rfl⟩
              obtain ⟨c, ec⟩ := hkS.1 _ (List.mem_of_getElem? hkx)
              cases ec
              have hrbS : m.aux H7 rb := by
                cases m <;> first | trivial | exact SL _ _ hrbL
              refine ⟨rfl, _, rfl, _, rfl, _, rfl, _, _, _, _, rfl, rfl, SqT.of (SL _ _ hrtL), atI_nat hv, _, m, rfl, ⟨ra, rb, rp, rfl, SL _ _ hraL, hrbS⟩, (by cases m.lays <;> rfl), _, rfl, ?_⟩
              refine iB (fun ht2 => ?_) (fun ht2 => ?_)
              · have hl : m.lays ≠ some c := fun z => by rw [z] at ht2; simp [oV, kV] at ht2
                obtain ⟨p1, p2⟩ := dset_put hset c
                have sub : ∀ d, has kh d → d ∈ U := fun d h => by
                  obtain ⟨_, t', _, h2⟩ := (hH d).mp h
                  exact subS d (List.mem_of_getElem? h2)
                have hsz := dset_len hset sub
                refine ⟨_, rfl, kh, .inl c, rfl, hkh, szl (by omega), _, upd_same, p1, fun d => ?_, fun b o' e => ?_⟩
                · rw [p2, hH]
                  constructor
                  · rintro (⟨h0, t', h1, h2⟩ | rfl)
                    · exact ⟨h0, t', by omega, h2⟩
                    · exact ⟨hl, t, by omega, hkx⟩
                  · rintro ⟨h0, t', h1, h2⟩
                    by_cases e : t' < t
                    · exact .inl ⟨h0, t', e, h2⟩
                    · have e2 : t' = t := by omega
                      subst e2
                      rw [hkx] at h2
                      cases h2
                      exact .inr rfl
                · rw [upd_ne (ne_of_none e hD)]
                  exact SL _ _ e
              · have hl : m.lays = some c := by
                  cases el : m.lays with
                  | none => rw [el] at ht2; simp [oV, kV] at ht2
                  | some c' =>
                    rw [el] at ht2
                    simp [oV, kV] at ht2
                    rw [ht2]
                refine ⟨kh, hkh, hset, fun d => ?_, SL⟩
                rw [hH]
                constructor
                · rintro ⟨h0, t', h1, h2⟩
                  exact ⟨h0, t', by omega, h2⟩
                · rintro ⟨h0, t', h1, h2⟩
                  refine ⟨h0, t', ?_, h2⟩
                  rcases Nat.lt_or_ge t' t with e | e
                  · exact e
                  · have e2 : t' = t := by omega
                    subst e2
                    rw [hkx] at h2
                    cases h2
                    exact absurd hl h0
            · rintro H7 ⟨kh, hkh, hset, hH, SL⟩
              refine ⟨SL _ _ HLd, ?_⟩
              refine hn _ _ ⟨D, kh, rfl, fun b o e => ?_, by rw [← HLo D nDs]; exact hD, by rw [upd_ne nDs]; exact hkh, hset, fun c => ?_⟩
              · by_cases e1 : b = ds
                · subst e1
                  rw [upd_same, ← e, hds6]
                · rw [upd_ne e1]
                  exact SL _ _ ((HLo b e1).trans e)
              · rw [hH]
                constructor
                · rintro ⟨h0, t', _, h2⟩
                  exact ⟨List.mem_of_getElem? h2, h0⟩
                · rintro ⟨h1, h0⟩
                  obtain ⟨t', ht'⟩ := List.getElem?_of_mem (show (.inl c, V.bl true) ∈ kS from h1)
                  exact ⟨h0, t', (List.getElem?_eq_some_iff.mp ht').1, ht'⟩
        · obtain ⟨bs2, hbl5, hbsl, hbs⟩ := hbl.mono st2.same
          have eb : bs2[i]? = some (bs2[i]'(by omega)) := List.getElem?_eq_getElem (by omega)
          have hnum := hbs i _ eb
          generalize (bs2[i]'(by omega)) = nb at eb hnum
          obtain ⟨as2, hal5, hasl2, has2⟩ := id st2.ahead
          obtain ⟨fs2, hfl5, _, _⟩ := id st2.found
          have hget : ∀ s ∈ nexts rows i, ∃ a, as2[s]? = some a ∧ H5 a = some (.dK (k2 s)) ∧ DSet (k2 s) := fun s hs => by
            have hs' := hnxi s hs
            have e : as2[s]? = some (as2[s]'(by omega)) := List.getElem?_eq_getElem (by omega)
            obtain ⟨h1, h2⟩ := has2 s _ e
            exact ⟨_, e, h1, h2⟩
          obtain ⟨d1, u1, d2, u2, hd1, mu1, hne, hd2, mu2, hcov⟩ := pick (H := H5) (L := (nexts rows i).filterMap fun s => as2[s]?) (f := fl) (g := bl) (Nat.le_trans (List.length_filterMap_le ..) (nexts_len rows i)) (fun a ha => by
            obtain ⟨s, hs, e⟩ := List.mem_filterMap.mp ha
            obtain ⟨a', e', h1, _⟩ := hget s hs
            rw [e] at e'
            cases e'
            exact ⟨_, h1⟩) hfl5 hbl5 ⟨_, rfl⟩ ⟨_, rfl⟩ nbf
          refine ⟨d1, u1, hd1, mu1, fun o1 => ⟨d2, u2, by rw [upd_ne hne]; exact hd2, mu2, fun o2 => ?_⟩⟩
          have lockL : ∀ {a : Addr} {xs : List V}, H5 a = some (.lst xs) → SqL K (upd (upd H5 d1 (.frz o1 u1)) d2 (.frz o2 u2)) a xs := fun h => sq_lock2 h hd1 hd2 hne
          have lockD : ∀ s ∈ nexts rows i, ∃ a o, as2[s]? = some a ∧ (upd (upd H5 d1 (.frz o1 u1)) d2 (.frz o2 u2)) a = some (.frz o (.dK (k2 s))) ∧ DSet (k2 s) := fun s hs => by
            obtain ⟨a, e, h1, h2⟩ := hget s hs
            obtain ⟨o, ho⟩ := frz_lock2 (o1 := o1) (o2 := o2) h1 hd1 hd2 hne (hcov a (List.mem_filterMap.mpr ⟨s, hs, e⟩))
            exact ⟨a, o, e, ho, h2⟩
          have offL : ∀ b, b ≠ d1 → b ≠ d2 → (upd (upd H5 d1 (.frz o1 u1)) d2 (.frz o2 u2)) b = H5 b := fun b n1 n2 => by rw [upd_ne n2, upd_ne n1]
          have at1 : (upd (upd H5 d1 (.frz o1 u1)) d2 (.frz o2 u2)) d1 = some (.frz o1 u1) := by rw [upd_ne hne.symm, upd_same]
          have at2 : (upd (upd H5 d1 (.frz o1 u1)) d2 (.frz o2 u2)) d2 = some (.frz o2 u2) := upd_same
          generalize upd (upd H5 d1 (.frz o1 u1)) d2 (.frz o2 u2) = HL at lockL lockD offL at1 at2 ⊢
          have hnumL := lockL hnum
          refine ⟨_, rfl, _, rfl, _, _, _, _, rfl, rfl, lockL hbl5, atI_nat (j := i) (by rw [List.getElem?_map, eb]; rfl), nb, rfl, ⟨_, hnumL⟩, fun D hD => ?_⟩
          refine it_loop (walk_list (K := K) (a := nb) (xs := (nexts rows i).map fun (j : Nat) => V.int (j : Int))) (fun t H' => ∃ kS, H' D = some (.dK kS) ∧ DSet kS ∧ (∀ c, has kS c ↔ ∃ t' s, t' < t ∧ (nexts rows i)[t']? = some s ∧ has (k2 s) c) ∧ Same HL H') ?_ ?_ ?_ ?_
          · exact ⟨[], upd_same, dset_nil, fun c => ⟨fun h => absurd h (has_nil c), fun ⟨t', s, h, _⟩ => absurd h (by omega)⟩, same_new hD⟩
          · rintro t H' _ ⟨_, _, _, _, S⟩
            exact sqL_same S hnumL
          · rintro t x H6x H6 ht ⟨kS, hkS, hset, hS, SL⟩ ⟨rfl, hx⟩
            rw [List.getElem?_map] at hx
            obtain ⟨s, hs, rfl⟩ := Option.map_eq_some_iff.mp hx
            have hsm := List.mem_of_getElem? hs
            obtain ⟨a, o, ea, hao, hda⟩ := lockD s hsm
            have hsn := hnxi s hsm
            refine ⟨rfl, _, rfl, _, rfl, _, _, _, _, rfl, rfl, sqL_same SL (lockL hal5), atI_nat (j := s) (by rw [List.getElem?_map, ea]; rfl), a, o, rfl, .inl ⟨k2 s, SL _ _ hao, ?_⟩⟩
            refine it_loop (walk_keys (d := a) (o := o) (kvs := k2 s)) (fun t2 H' => ∃ kS2, H' D = some (.dK kS2) ∧ DSet kS2 ∧ (∀ c, has kS2 c ↔ has kS c ∨ ∃ t' : Nat, t' < t2 ∧ (k2 s)[t']? = some (.inl c, V.bl true)) ∧ Same HL H') ?_ ?_ ?_ ?_
            · exact ⟨kS, hkS, hset, fun c => ⟨.inl, fun h => h.elim id fun ⟨t', h, _⟩ => absurd h (by omega)⟩, SL⟩
            · rintro t2 H' _ ⟨_, _, _, _, S⟩
              exact S _ _ hao
            · rintro t2 x H7x H7 ht2 ⟨kS2, hkS2, hset2, hS2, SL2⟩ ⟨rfl, kx, vx, hkx, rfl⟩
              obtain ⟨c, ec⟩ := hda.1 _ (List.mem_of_getElem? hkx)
              cases ec
              obtain ⟨p1, p2⟩ := dset_put hset2 c
              have sub : ∀ d, has kS2 d → d ∈ U := fun d h => by
                rcases (hS2 d).mp h with h | ⟨t', _, h⟩
                · obtain ⟨t'', s', _, e1, e2⟩ := (hS d).mp h
                  exact st2.inU s' (hnxi s' (List.mem_of_getElem? e1)) d e2
                · exact st2.inU s hsn d (List.mem_of_getElem? h)
              have hsz := dset_len hset2 sub
              refine ⟨rfl, _, rfl, kS2, .inl c, rfl, hkS2, szl (by omega), _, upd_same, p1, fun d => ?_, fun b o' e => ?_⟩
              · rw [p2, hS2]
                constructor
                · rintro ((h | ⟨t', h1, h2⟩) | rfl)
                  · exact .inl h
                  · exact .inr ⟨t', by omega, h2⟩
                  · exact .inr ⟨t2, by omega, hkx⟩
                · rintro (h | ⟨t', h1, h2⟩)
                  · exact .inl (.inl h)
                  · by_cases e : t' < t2
                    · exact .inl (.inr ⟨t', e, h2⟩)
                    · have e2 : t' = t2 := by omega
                      subst e2
                      rw [hkx] at h2
                      cases h2
                      exact .inr rfl
              · rw [upd_ne (ne_of_none e hD)]
                exact SL2 _ _ e
            · rintro H7 ⟨kS2, hkS2, hset2, hS2, SL2⟩
              refine ⟨kS2, hkS2, hset2, fun c => ?_, SL2⟩
              rw [hS2, hS]
              constructor
              · rintro (⟨t', s', h1, h2, h3⟩ | ⟨t', h1, h2⟩)
                · exact ⟨t', s', by omega, h2, h3⟩
                · exact ⟨t, s, by omega, hs, List.mem_of_getElem? h2⟩
              · rintro ⟨t', s', h1, h2, h3⟩
                by_cases e : t' < t
                · exact .inl ⟨t', s', e, h2, h3⟩
                · have e2 : t' = t := by omega
                  subst e2
                  rw [hs] at h2
                  cases h2
                  obtain ⟨n2, hn2⟩ := List.getElem?_of_mem (show (.inl c, V.bl true) ∈ k2 s from h3)
                  exact .inr ⟨n2, (List.getElem?_eq_some_iff.mp hn2).1, hn2⟩
          · rintro H6 ⟨kS, hkS, hset, hS, SL⟩
            have n1 : D ≠ d1 := (ne_of_none at1 hD).symm
            have n2 : D ≠ d2 := (ne_of_none at2 hD).symm
            refine ⟨SL _ _ at2, by rw [upd_ne hne.symm]; exact SL _ _ at1, ?_⟩
            refine hn _ _ ⟨D, kS, rfl, fun b o e => ?_, by rw [← offL D n1 n2]; exact hD, by rw [upd_ne n1, upd_ne n2]; exact hkS, hset, fun c => ?_⟩
            · by_cases e1 : b = d1
              · subst e1
                rw [upd_same, ← e, hd1]
              · rw [upd_ne e1]
                by_cases e2 : b = d2
                · subst e2
                  rw [upd_same, ← e, hd2]
                · rw [upd_ne e2]
                  exact SL _ _ ((offL b e1 e2).trans e)
            · rw [hS]
              constructor
              · rintro ⟨t', s, _, h2, h3⟩
                exact ⟨s, List.mem_of_getElem? h2, h3⟩
              · rintro ⟨s, h2, h3⟩
                obtain ⟨t', ht'⟩ := List.getElem?_of_mem h2
                refine ⟨t', s, ?_, ht', h3⟩
                rw [List.length_map]
                exact (List.getElem?_eq_some_iff.mp ht').1
      · rintro σ' H5 ⟨flag, y5, y6, y7, y8, y9, y10, k2, kF2, rfl, st2, hle, hlt, hcl⟩
        refine ⟨2 * lacks U rows.length k2 + (if flag = true then 0 else 1), ?_, flag, y5, y6, y7, y8, y9, y10, k2, kF2, rfl, st2, rfl, fun z => ?_⟩
        · cases flag with
          | true =>
            rw [if_pos rfl, if_neg (by decide)]
            omega
          | false =>
            have := hlt rfl
            rw [if_neg (by decide)]
            omega
        · obtain ⟨e1, e2⟩ := hcl z
          have fi : ∀ i c, i < rows.length → (Fi rows (fun j d => has (k2 j) d) i c ↔ Fi rows (fun j d => has (kA j) d) i c) := fun i c hi =>
            ⟨fun h => h.mono fun j hj d => (e1 j (hnx i hi j hj) d).mp, fun h => h.mono fun j hj d => (e1 j (hnx i hi j hj) d).mpr⟩
          refine ⟨fun i hi c => ?_, fun i hi c h => ?_⟩
          · rw [(e2 i (by omega) hi).1 c]
            exact ⟨fun ⟨s, h1, h2⟩ => ⟨s, h1, (e1 s (hnx i hi s h1) c).mpr h2⟩, fun ⟨s, h1, h2⟩ => ⟨s, h1, (e1 s (hnx i hi s h1) c).mp h2⟩⟩
          · exact (e1 i hi c).mpr ((e2 i (by omega) hi).2 c ((fi i c hi).mp h))
end
end K48
set_option maxHeartbeats 8000000
set_option linter.all false
/-! handed_on -/
namespace K48
open PySem L2
/-- a row whose result the next row takes from the pile, and nobody else -/
def LeftOk (rows : List MR) (live : Nat → Int → Prop) (named : Int → Prop) (i : Nat) : Prop := ∃ (m m2 : MR) (c : Int) (rest : List Int), rows[i]? = some m ∧ m.lays = some c ∧ ¬ named c ∧ rows[i + 1]? = some m2 ∧ m2.reads = c :: rest ∧ c ∉ rest ∧
  ((∀ s ∈ nexts rows (i + 1), ¬ live s c) ∨ m2.lays = some c)
theorem cut_first (xs : List V) : cutV xs none (some 1) = xs.take 1 := by
  unfold cutV
  cases xs with
  | nil => rfl
  | cons x xs =>
    have h1 : HT.sIx (x :: xs).length 0 none = 0 := rfl
    have h2 : HT.sIx (x :: xs).length (x :: xs).length (some 1) = 1 := by
      unfold HT.sIx
      simp
    rw [h1, h2]
    rfl
theorem cut_rest (xs : List V) : cutV xs (some 1) none = xs.drop 1 := by
  unfold cutV
  cases xs with
  | nil => rfl
  | cons x xs =>
    have h1 : HT.sIx (x :: xs).length (x :: xs).length none = (x :: xs).length := rfl
    have h2 : HT.sIx (x :: xs).length 0 (some 1) = 1 := by
      unfold HT.sIx
      simp
    rw [h1, h2]
    refine List.take_of_length_le ?_
    simp
theorem falses (n : Nat) : (List.replicate n [V.bl false]).flatten = (List.replicate n false).map V.bl := by
  induction n with
  | zero => rfl
  | succ n ih =>
    rw [List.replicate_succ, List.flatten_cons, ih]
    rfl
section
variable {P : Program} {w : World} {K : PySem.W.Frag} {mg : Str → Option Value} {base : Heap} {aO aL : Addr}
/-- the rows, well made -/
structure RowsOk (H : Hp) (rt : Addr) (vs0 : List V) (rows : List MR) : Prop where
  tup : H rt = some (.tup vs0)
  ent : Paired (RowV H) vs0 rows
  len : rows.length ≤ 700
  uniq : LabUniq rows
  tgt : TargetsOk rows
  nx : ∀ i, i < rows.length → ∀ s ∈ nexts rows i, s < rows.length
  rd : ∀ m ∈ rows, m.reads.length ≤ 3
theorem RowsOk.same {H H' : Hp} {rt : Addr} {vs0 : List V} {rows : List MR} (h : RowsOk H rt vs0 rows) (s : TupStay H H') : RowsOk H' rt vs0 rows :=
  ⟨s _ _ h.tup, rows_mono s h.ent, h.len, h.uniq, h.tgt, h.nx, h.rd⟩
/-- which rows hand on -/
def HandAt (H : Hp) (hl : Addr) (rows : List MR) (named : Int → Prop) (bs : List Bool) : Prop := H hl = some (.lst (bs.map V.bl)) ∧ bs.length = rows.length ∧
  ∃ live : Nat → Int → Prop, (∀ i, i < rows.length → ∀ c, Fi rows live i c → live i c) ∧ ∀ i, bs[i]? = some true → LeftOk rows live named i
def spHanded : Sp := fun vs H Q _ => ∃ (rt nd : Addr) (vs0 : List V) (rows : List MR) (kN : List (Key × V)), vs = [.ref rt, .ref nd] ∧ RowsOk H rt vs0 rows ∧ H nd = some (.dK kN) ∧ DSet kN ∧
  ∀ (hl : Addr) (H' : Hp) (bs : List Bool), Same H H' → H hl = none → HandAt H' hl rows (has kN) bs → Q (.ref hl) H'
theorem scHanded : FnScope ["rows", "named", "wanted", "found", "number", "cell", "some"] ["rows", "named"] (defScope (topS 7)) := ⟨rfl, rfl, rfl, by decide +kernel, rfl, by decide +kernel, by decide +kernel⟩
theorem fn_handed {f : Addr} {fd : FuncData} (F : Fun K "handed_on" "handed_on" (topS 7) f fd) (T : Blt K mg aO aL)
    (D_wanted_behind : Dfn P w K mg base "wanted_behind" 2 ["rows"] spWanted)
    (D_read_by : Dfn P w K mg base "read_by" 1 ["row"] spReadBy)
    (D_laid_by : Dfn P w K mg base "laid_by" 1 ["row"] spLaidBy) :
    FnOk P w K mg base CX0 3 f fd ["rows", "named"] spHanded := by
  have sc := scHanded
  refine F.ok sc (fun vs H Q E h => ?_) (fun cdv A outer s0 H vs Q E hr h => ?_)
  · obtain ⟨rt, nd, vs0, rows, kN, rfl, _⟩ := h
    rfl
  · obtain ⟨rt, nd, vs0, rows, kN, rfl, hR, hnd, hkN, k⟩ := h
    have hu := hu_of hr
    have hvs : vs0.length = rows.length := hR.ent.length
    have hlen := hR.len
    refine ⟨_,
(pss_cons (ps_set (i := 2) sc.nd rfl (Or.inl rfl) (pe_callD D_wanted_behind (hr.mono (by omega)) (by rfl) (pa_cons (pv 0) pa_nil)))
(pss_cons (ps_set (i := 3) sc.nd rfl (Or.inl rfl) (pe_op op_rep (pe_lst (pa_cons pe_bl pa_nil)) (pe_callB (call_len) (by rfl) T.len PySem.boot_len (pa_cons (pv 0) pa_nil))))
(pss_cons (ps_for PassesOwn.never rfl (pi_range1 (by rfl) T.range (pa_cons (pe_op op_sub (pe_callB (call_len) (by rfl) T.len PySem.boot_len (pa_cons (pv 0) pa_nil)) pe_int) pa_nil)) (pg_name (i := 4) sc.nd rfl (Or.inl rfl))
(pss_cons (ps_set (i := 5) sc.nd rfl (Or.inl rfl) (pe_callD D_laid_by (hr.mono (by omega)) (by rfl) (pa_cons (pe_ix ix_tup (pv 0) (pv 4) (fun _ _ => rfl)) pa_nil)))
(pss_cons (ps_set (i := 6) sc.nd rfl (Or.inl rfl) (pe_callD D_read_by (hr.mono (by omega)) (by rfl) (pa_cons (pe_ix ix_tup (pv 0) (pe_op op_add (pv 4) pe_int) (fun _ _ => rfl)) pa_nil)))
(pss_one (ps_if (PW.pt (pw_and (pt_cmpR op_notN (pv 5) pe_non (nomark _)) (pw_and (pt_cmp (pc_dnotin hu (pv 5) (pv 1)) (by rfl)) (pw_and (pt_cmpR (op_eqD hr.units) (pe_slice sl_list (pv 6) po_none (po_some pe_int)) (pe_lst (pa_cons (pv 5) pa_nil)) (nomark _)) (pw_and1 (pt_cmpR op_eq (pe_bm PySem.F.plainAttrs_list PySem.F.slot_list_count PySem.F.type_list_count mt_lcount (pv 6) (pa_cons (pv 5) pa_nil)) pe_int (nomark _)))))))
(pss_one (ps_asg (pe_or (pe_cmp (pc_dnotin hu (pv 5) (pe_ix ix_list (pv 2) (pe_op op_add (pv 4) pe_int) (fun _ _ => rfl)))) (pe_one (pe_cmpR op_eq (pv 5) (pe_callD D_laid_by (hr.mono (by omega)) (by rfl) (pa_cons (pe_ix ix_tup (pv 0) (pe_op op_add (pv 4) pe_int) (fun _ _ => rfl)) pa_nil)) (nomark _)))) (pg_sub (pv 3) (pv 4) set_list)))
pss_nil)))))
(pss_one (ps_ret (pv 3))))))
    , ?_⟩
    refine ⟨_, rfl, rt, vs0, rows, rfl, hR.tup, hR.ent, hR.len, hR.uniq, hR.tgt, hR.nx, hR.rd, fun wl H1 S1 ⟨live, kW, hW, hWl, hlive⟩ => ?_⟩
    refine ⟨by show 1 ≤ sizeLine; decide, fun t ht => ?_⟩
    have E1 := same_new (o := .lst [.bl false]) ht
    refine ⟨_, rfl, _, vs0.length, rfl, .inr ⟨_, SqT.of ((S1.trans E1) _ _ hR.tup), rfl⟩, t, _, _, rfl, rfl, upd_same, by omega, by omega, sz (by simp; omega), fun hl hhl => ?_⟩
    rw [show ((vs0.length : Nat) : Int).toNat = rows.length by omega, falses]
    have hhl1 : H1 hl = none := E1.free hhl
    have hhl0 : H hl = none := S1.free hhl1
    have S3 : Same H1 (upd (upd H1 t (.lst [.bl false])) hl (.lst ((List.replicate rows.length false).map V.bl))) := E1.trans (same_new hhl)
    have hl3 := @upd_same (upd H1 t (.lst [.bl false])) hl (.lst ((List.replicate rows.length false).map V.bl))
    generalize upd (upd H1 t (.lst [.bl false])) hl (.lst ((List.replicate rows.length false).map V.bl)) = H3 at S3 hl3 ⊢
    clear E1 ht hhl
    have hrt3 := (S1.trans S3) _ _ hR.tup
    refine ⟨_, rfl, _, vs0.length, rfl, .inr ⟨_, SqT.of hrt3, rfl⟩, _, _, rfl, rfl, _, rfl, by omega, by omega, ?_⟩
    refine for_range (lo := 0) (fun j σ' H' => ∃ (bs : List Bool) (x4 x5 x6 : Option V), σ' = [some (.ref rt), some (.ref nd), some (.ref wl), some (.ref hl), x4, x5, x6] ∧
      H' hl = some (.lst (bs.map V.bl)) ∧ bs.length = rows.length ∧ (∀ i, bs[i]? = some true → LeftOk rows live (has kN) i) ∧ Kp [hl] H3 H') ?_ ?_ ?_
    · refine ⟨_, _, _, _, rfl, hl3, List.length_replicate, fun i e => ?_, Kp.refl _ _⟩
      rw [List.getElem?_replicate] at e
      split at e <;> cases e
    · rintro j σ' H4 hj ⟨bs0, x4, x5, x6, rfl, hhl4, hbl, hbs, K4⟩
      have off : ∀ b o, H1 b = some o → b ∉ [hl] := fun b o e => by simp [ne_of_none e hhl1]
      have st : ∀ b o, H1 b = some o → H4 b = some o := fun b o e => K4 b o (off b o e) (S3 _ _ e)
      have hj1 : j < rows.length := by omega
      have hj2 : j + 1 < rows.length := by omega
      obtain ⟨v, hv, a, b, p, rfl, ha, hb⟩ := paired_at hR.ent (List.getElem?_eq_getElem hj1)
      obtain ⟨v2, hv2, a2, b2, p2, rfl, ha2, hb2⟩ := paired_at hR.ent (List.getElem?_eq_getElem hj2)
      have em := List.getElem?_eq_getElem hj1
      have em2 := List.getElem?_eq_getElem hj2
      have hrd2 : rows[j + 1].reads.length ≤ 3 := hR.rd _ (List.getElem_mem hj2)
      generalize rows[j] = m at ha hb em
      generalize rows[j + 1] = m2 at ha2 hb2 em2 hrd2
      have ha4 := st _ _ (S1 _ _ ha)
      have ha24 := st _ _ (S1 _ _ ha2)
      have hb4 : m.aux H4 b := by
        cases m <;> first | trivial | exact st _ _ (S1 _ _ hb)
      have hb24 : m2.aux H4 b2 := by
        cases m2 <;> first | trivial | exact st _ _ (S1 _ _ hb2)
      have hrt4 := st _ _ (S1 _ _ hR.tup)
      have hnd4 := st _ _ (S1 _ _ hnd)
      refine ⟨_, rfl, _, rfl, _, _, _, _, rfl, rfl, SqT.of hrt4, by rw [Int.zero_add]; exact atI_nat hv, _, m, rfl, ⟨a, b, p, rfl, ha4, hb4⟩, ?_⟩
      refine ⟨_, rfl, _, rfl, _, _, rfl, rfl, _, _, _, _, rfl, rfl, SqT.of hrt4, by rw [show (0 : Int) + (j : Int) + 1 = ((j + 1 : Nat) : Int) by omega]; exact atI_nat hv2, _, m2, rfl, ⟨a2, b2, p2, rfl, ha24, hb24⟩, fun H5 q S5 hq4 hq5 => ?_⟩
      have nxt : ∀ H', Same H5 H' → ∃ (bs : List Bool) (x4 x5 x6 : Option V), [some (.ref rt), some (.ref nd), some (.ref wl), some (.ref hl), some (.int (0 + (j : Int))), some (oV m.lays), some (.ref q)] = [some (.ref rt), some (.ref nd), some (.ref wl), some (.ref hl), x4, x5, x6] ∧
          H' hl = some (.lst (bs.map V.bl)) ∧ bs.length = rows.length ∧ (∀ i, bs[i]? = some true → LeftOk rows live (has kN) i) ∧ Kp [hl] H3 H' := fun H' S' =>
        ⟨bs0, _, _, _, rfl, (S5.trans S') _ _ hhl4, hbl, hbs, K4.trans (Kp.same (S5.trans S'))⟩
      have fin : ∀ (b : Bool) H', Same H5 H' → (b = true → LeftOk rows live (has kN) j) → ∃ (bs : List Bool) (x4 x5 x6 : Option V), [some (.ref rt), some (.ref nd), some (.ref wl), some (.ref hl), some (.int (0 + (j : Int))), some (oV m.lays), some (.ref q)] = [some (.ref rt), some (.ref nd), some (.ref wl), some (.ref hl), x4, x5, x6] ∧
          (upd H' hl (.lst ((bs0.map V.bl).set j (.bl b)))) hl = some (.lst (bs.map V.bl)) ∧ bs.length = rows.length ∧ (∀ i, bs[i]? = some true → LeftOk rows live (has kN) i) ∧ Kp [hl] H3 (upd H' hl (.lst ((bs0.map V.bl).set j (.bl b)))) := fun b' H' S' hb' => by
        refine ⟨bs0.set j b', _, _, _, rfl, by rw [upd_same, List.map_set], by rw [List.length_set, hbl], fun i e => ?_, (K4.trans (Kp.same (S5.trans S'))).trans (Kp.upd (by simp))⟩
        by_cases ei : i = j
        · subst ei
          rw [List.getElem?_set_self (by omega)] at e
          exact hb' (Option.some.inj e)
        · rw [List.getElem?_set_ne (fun z => ei z.symm)] at e
          exact hbs i e
      dsimp only [gName]
      have hnd5 := S5 _ _ hnd4
      cases hlay : m.lays with
      | none =>
        rw [hlay] at nxt
        exact ⟨_, rfl, rfl, _, rfl, iF (by rfl) (iF rfl (nxt H5 fun _ _ e => e))⟩
      | some c =>
        rw [hlay] at nxt fin
        refine ⟨_, rfl, rfl, _, rfl, iT (by rfl) ⟨_, rfl, _, rfl, nd, valV kN (.inl c), rfl, .inl ⟨kN, .inl c, .inl hnd5, rfl, rfl⟩, _, rfl, ?_⟩⟩
        rw [has_val hkN]
        by_cases hN : has kN c
        · rw [if_pos hN]
          exact iF rfl (iF rfl (nxt H5 fun _ _ e => e))
        · rw [if_neg hN]
          refine iT rfl ⟨_, rfl, _, rfl, q, _, rfl, SqL.of hq5, fun n1 hn1 => ⟨_, rfl, by show 1 ≤ sizeLine; decide, fun n2 hn2 => ?_⟩⟩
          rw [cut_first] at hn2 ⊢
          have E1 := same_new (o := .lst ((m2.reads.map V.int).take 1)) hn1
          have E2 := same_new (o := .lst [oV (some c)]) hn2
          have at1 := E2 _ _ (@upd_same H5 n1 (.lst ((m2.reads.map V.int).take 1)))
          have at2 := @upd_same (upd H5 n1 (.lst ((m2.reads.map V.int).take 1))) n2 (.lst [oV (some c)])
          have E := E1.trans E2
          generalize upd (upd H5 n1 (.lst ((m2.reads.map V.int).take 1))) n2 (.lst [oV (some c)]) = H6 at E at1 at2 ⊢
          clear E1 E2 hn1 hn2
          cases hre : m2.reads with
          | nil =>
            rw [hre] at at1
            exact ⟨_, _, .lst (SqL.of at1) .nil, .lst (SqL.of at2) (.cons (.int c) .nil), rfl, rfl, _, rfl, iF rfl (iF rfl (nxt H6 E))⟩
          | cons c2 rest =>
            rw [hre] at at1
            refine ⟨_, _, .lst (SqL.of at1) (.cons (.int c2) .nil), .lst (SqL.of at2) (.cons (.int c) .nil), rfl, rfl, _, rfl, ?_⟩
            refine iB (fun hc => ?_) (fun _ => iF rfl (nxt H6 E))
            have ec : c2 = c := by simpa [PyData.eqv, PyData.eqvAll] using hc
            subst ec
            have hq6 := E _ _ hq5
            refine ⟨_, rfl, .inl ⟨rfl, _, SqL.of hq6⟩, _, rfl, q, m2.reads, c2, rfl, rfl, SqL.of hq6, rfl, _, rfl, ?_⟩
            refine iB (fun hcn => ?_) (fun _ => nxt H6 E)
            have hnot : c2 ∉ rest := by
              have h1 : (((m2.reads.count c2 : Nat) : Int)) = 1 := by simpa using hcn
              rw [hre, List.count_cons_self] at h1
              exact List.count_eq_zero.mp (by omega)
            have hwl6 : ∀ b o, H1 b = some o → H6 b = some o := fun b o e => E _ _ (S5 _ _ (st _ _ e))
            have hW6 := hW.mono (H' := H6) fun b o e _ => hwl6 b o e
            obtain ⟨xs, aw, hwl, hai, haw, hdw⟩ := hW6.get hj2
            refine ⟨_, rfl, _, rfl, _, rfl, _, _, rfl, rfl, _, _, _, _, rfl, rfl, SqL.of hwl, by rw [show (0 : Int) + (j : Int) + 1 = ((j + 1 : Nat) : Int) by omega]; exact atI_nat hai, aw, valV (kW (j + 1)) (.inl c2), rfl, .inl ⟨kW (j + 1), .inl c2, .inl haw, rfl, rfl⟩, _, rfl, ?_⟩
            rw [has_val hdw]
            have hhl6 := E _ _ (S5 _ _ hhl4)
            by_cases hw : has (kW (j + 1)) c2
            · rw [if_pos hw]
              refine iF rfl ⟨_, rfl, _, rfl, _, rfl, _, _, rfl, rfl, _, _, _, _, rfl, rfl, SqT.of (E _ _ (S5 _ _ hrt4)), by rw [show (0 : Int) + (j : Int) + 1 = ((j + 1 : Nat) : Int) by omega]; exact atI_nat hv2, _, m2, rfl, ⟨a2, b2, p2, rfl, E _ _ (S5 _ _ ha24), ?_⟩, (by cases m2.lays <;> rfl), ?_⟩
              · cases m2 <;> first | trivial | exact E _ _ (S5 _ _ hb24)
              · refine ⟨_, rfl, _, rfl, hl, _, _, j, rfl, rfl, hhl6, by rw [Int.zero_add]; exact ixN_nat (by rw [List.length_map]; omega), ?_⟩
                refine fin _ H6 E fun hb => ⟨m, m2, c2, rest, em, hlay, hN, em2, hre, hnot, .inr ?_⟩
                cases hl2 : m2.lays with
                | none => rw [hl2] at hb; simp [oV] at hb
                | some c3 =>
                  rw [hl2] at hb
                  simp [oV] at hb
                  rw [hb]
            · rw [if_neg hw]
              refine iT rfl ⟨_, rfl, _, rfl, hl, _, _, j, rfl, rfl, hhl6, by rw [Int.zero_add]; exact ixN_nat (by rw [List.length_map]; omega), ?_⟩
              refine fin _ H6 E fun _ => ⟨m, m2, c2, rest, em, hlay, hN, em2, hre, hnot, .inl fun s hs hl2 => hw ((hWl (j + 1) hj2 c2).mpr ⟨s, hs, hl2⟩)⟩
    · rintro σ' H4 ⟨bs, x4, x5, x6, rfl, hhl4, hbl, hbs, K4⟩
      refine ⟨_, rfl, k hl H4 bs (fun b o e => K4 b o (by simp [ne_of_none e hhl0]) ((S1.trans S3) _ _ e)) hhl0 ⟨hhl4, hbl, live, hlive, hbs⟩⟩
end
end K48
set_option maxHeartbeats 4000000
set_option linter.all false
/-! a method's call with one keyword-only argument; what the maker makes -/
namespace K48
open PySem PySem.Spec PyProof.Rows L2
section
variable {X : Cx} {CX : CXT} {k n : Nat} {f C : Addr} {fd : FuncData} {ps ks : List Str} {sp : Sp} {E : XK} {m : Str} {pos apos : Pos} {o e : Expr} {es : List Expr} {kws : List Keyword} {ta : TE} {t tk : TA} {g : List Value → List Value → List Value} {gV : List V → List V → List V}
/-- o.m(e, .., k = v, ..) of an instance of the class at C; n: the positional values, the object among them -/
def tMethN (C : Addr) (m : Str) (n j : Nat) (sp : Sp) (gV : List V → List V → List V) (E : XK) (ta : TE) (t tk : TA) : TE := fun σ H Q => ta σ H fun x H1 => ∃ a dx fs, x = .ref a ∧ H1 a = some (.ins C dx fs) ∧ fs.lookup m = none ∧
  t σ H1 fun vs H2 => tk σ H2 fun zs H3 => (x :: vs).length = n ∧ zs.length = j ∧ sp (gV (x :: vs) zs) H3 Q E
theorem pe_methN {pl : Sem Bool} (he : PE X o ta) (c : Cls X.K C) (hm : Meth X.K C m f) (F : FnOk X.prog X.w X.K X.mg X.base CX k f fd ps sp) (hr : Room k X.A) (hb : KBn X.K fd ps n ks g gV) (hx : Passes CX X E) (ha : PA X (e :: es) t) (hkw : PK X kws tk)
    (hall : (backToKw pos (keywordEach kws X.env)).all (·.1.isSome) = true := by rfl) (hks : (backToKw pos (keywordEach kws X.env)).filterMap (·.1) = ks := by rfl)
    (hst : starEach (e :: es) X.env = (false, eval e X.env) :: starEach es X.env := by rfl)
    (hpl : ((backTo pos (starEach (e :: es) X.env)).any (·.1) || (backToKw pos (keywordEach kws X.env)).any (·.1.isNone)) = false := by rfl)
    (ht : eval (.Call (.Attribute o m apos) (e :: es) kws pos) X.env = (do
      let ov ← eval o X.env
      standAt apos.atName
      let (f, first) ← holding [ov] (getMethod ov m pl)
      callWith pos f first (backTo pos (starEach (e :: es) X.env)) (backToKw pos (keywordEach kws X.env))) := by rfl) :
    PE X (.Call (.Attribute o m apos) (e :: es) kws pos) (tMethN C m n ks.length sp gV E ta t tk) := by
  constructor
  intro pins s σ H Q I h
  refine PySem.W.methodCall_KW (pl := pl) (thn (he.run pins s σ H _ I h) fun u s1 h1 => ?_) ht
  obtain ⟨x, H1, I1, rx, a, dx, fs, rfl, ea, l, q⟩ := h1
  obtain rfl : u = Value.ref a := rx
  refine getmeth_ok I1 ea c hm l ?_
  refine PySem.W.callWith_KW (first := [.ref a]) (h₀ := X.base) I.ok.mod.kin hm.kp hall (thn (ha.run pos pins s1 σ H1 _ I1 q) fun us s2 h2 => ?_) hpl hst
  obtain ⟨vs, H2, I2, r2, q2⟩ := h2
  refine thn (hkw.run pos pins s2 σ H2 _ I2 q2) fun ws s3 h3 => ?_
  obtain ⟨zs, H3, I3, r3, l1, l2, q3⟩ := h3
  refine ⟨I3.kIn, ?_⟩
  rw [hks]
  exact run_fnN (us := .ref a :: us) (vs := .ref a :: vs) F hr hb hx I3 (.cons rfl r2) r3 l1 l2 q3
end
/-! what the maker makes of the rows -/
def leftAt (bs : List Bool) (i : Nat) : Bool := match bs[i]? with
  | some b => b
  | none => false
/-- the reads that are loaded ahead of row i -/
def loadsOf (bs : List Bool) (i : Nat) (m : MR) : List Int := if i > 0 ∧ leftAt bs (i - 1) = true then m.reads.drop 1 else m.reads
def midOf (k : Int) : MR → List KR
  | .beg => [.row k]
  | .nothing => [.nothing k]
  | .label _ => []
  | .go l => [.jump l k]
  | .unl _ l => [.unl l k]
  | .put _ n => [.push n k]
  | .copy _ _ => []
  | .op o _ _ _ => [.op o k]
  | .say kd _ => [.say kd k]
  | .lay n _ => [.lay n k]
  | .give c => [.give (if c.isSome then 1 else 0) k]
  | .fetch _ f n => [.fetch f n k]
  | .call _ f n as => [.call f n (as.length : Int) k]
def storeOf (bs : List Bool) (i : Nat) (m : MR) : List KR := match m.lays with
  | some c => if leftAt bs i = true then [] else [.store c (i : Int)]
  | none => []
def emit (bs : List Bool) (i : Nat) (m : MR) : List KR := match m with
  | .label _ => []
  | m => (loadsOf bs i m).map (fun c => KR.load c (i : Int)) ++ midOf (i : Int) m ++ storeOf bs i m
/-- the rows made of the first j -/
def codeTo (rows : List MR) (bs : List Bool) : Nat → List KR
  | 0 => []
  | j + 1 => codeTo rows bs j ++ (match rows[j]? with
    | some m => emit bs j m
    | none => [])
/-- where a label's rows begin, by the first j rows -/
def spotTo (rows : List MR) (bs : List Bool) : Nat → Int → Option Nat
  | 0, _ => none
  | j + 1, k => if rows[j]? = some (.label k) then some (codeTo rows bs j).length else spotTo rows bs j k
def ledR (s : Int → Option Nat) : KR → KR
  | .jump a k => .jump (((s a).getD 0 : Nat) : Int) k
  | .unl a k => .unl (((s a).getD 0 : Nat) : Int) k
  | r => r
def machineRows (rows : List MR) (bs : List Bool) : List KR := (codeTo rows bs rows.length).map (ledR (spotTo rows bs rows.length))
theorem emit_len {bs : List Bool} {i : Nat} {m : MR} (h : m.reads.length ≤ 3) : (emit bs i m).length ≤ 5 := by
  have h1 : (loadsOf bs i m).length ≤ 3 := by
    unfold loadsOf
    split
    · rw [List.length_drop]; omega
    · exact h
  have h2 : (midOf (i : Int) m).length ≤ 1 := by cases m <;> simp [midOf]
  have h3 : (storeOf bs i m).length ≤ 1 := by
    unfold storeOf
    split
    · split <;> simp
    · simp
  unfold emit
  split
  · simp
  · rw [List.length_append, List.length_append, List.length_map]
    omega
theorem codeTo_len {rows : List MR} {bs : List Bool} (h : ∀ m ∈ rows, m.reads.length ≤ 3) : ∀ j, (codeTo rows bs j).length ≤ 5 * j
  | 0 => Nat.le_refl _
  | j + 1 => by
    have h1 := codeTo_len (bs := bs) h j
    show (codeTo rows bs j ++ _).length ≤ _
    rw [List.length_append]
    cases e : rows[j]? with
    | none =>
      dsimp only [List.length_nil]
      omega
    | some m =>
      have h2 := emit_len (bs := bs) (i := j) (h m (List.mem_of_getElem? e))
      dsimp only
      omega
end K48
set_option maxHeartbeats 8000000
set_option linter.all false
/-! the class Maker -/
namespace K48
open PySem L2
abbrev sMk (j : Nat) : Stmt := inClass (topS 8) j
section
variable {P : Program} {w : World} {K : PySem.W.Frag} {mg : Str → Option Value} {base : Heap} {aO aL C : Addr}
structure McT (K : PySem.W.Frag) (mg : Str → Option Value) (C : Addr) : Prop where
  cl : Cls K C
  nR : NoAttr K C "rows"
  nL : NoAttr K C "left"
  nF : NoAttr K C "found"
  nS : NoAttr K C "spots"
  mgC : mg "Maker" = some (.ref C)
/-- a method, as it is called -/
def Mth (P : Program) (w : World) (K : PySem.W.Frag) (mg : Str → Option Value) (base : Heap) (C : Addr) (m : Str) (k : Nat) (ps : List Str) (sp : Sp) : Prop :=
  ∃ (f : Addr) (fd : FuncData), FnOk P w K mg base CX0 k f fd ps sp ∧ Meth K C m f ∧ Binds K fd ps []
/-- .. with one keyword-only argument -/
def MthK (P : Program) (w : World) (K : PySem.W.Frag) (mg : Str → Option Value) (base : Heap) (C : Addr) (m : Str) (k n : Nat) (ps ks : List Str) (sp : Sp) : Prop :=
  ∃ (f : Addr) (fd : FuncData), FnOk P w K mg base CX0 k f fd ps sp ∧ Meth K C m f ∧ KBn K fd ps n ks (fun us ws => us ++ ws) (fun vs zs => vs ++ zs)
def MkD (P : Program) (w : World) (K : PySem.W.Frag) (mg : Str → Option Value) (base : Heap) (C : Addr) (k : Nat) (ps : List Str) (sp : Sp) : Prop :=
  ∃ (f : Addr) (fd : FuncData), FnOk P w K mg base CX0 k f fd ps sp ∧ Mk K C f ∧ Binds K fd ps []
section
variable {X : Cx} {k n : Nat} {ps ks : List Str} {sp : Sp} {m x : Str} {p pos apos : Pos} {e o : Expr} {es : List Expr} {kws : List Keyword} {ta : TE} {t tk : TA}
theorem pe_methD {pl : Sem Bool} (he : PE X o ta) (c : Cls X.K C) (D : Mth X.prog X.w X.K X.mg X.base C m k ps sp) (hr : Room k X.A) (ha : PA X (e :: es) t)
    (hst : starEach (e :: es) X.env = (false, eval e X.env) :: starEach es X.env := by rfl) (hpl : (backTo pos (starEach es X.env)).any (·.1) = false := by rfl)
    (ht : eval (.Call (.Attribute o m apos) (e :: es) [] pos) X.env = (do
      let ov ← eval o X.env
      standAt apos.atName
      let (f, first) ← holding [ov] (getMethod ov m pl)
      callWith pos f first (backTo pos (starEach (e :: es) X.env)) (backToKw pos (keywordEach [] X.env))) := by rfl) :
    PE X (.Call (.Attribute o m apos) (e :: es) [] pos) (tMeth C m sp [] E0 ta t) := by
  obtain ⟨f, fd, F, hm, hb⟩ := D
  exact pe_meth he c hm F hr hb .nil pass0 ha hst hpl ht
theorem pe_methD0 {pl : Sem Bool} (he : PE X o ta) (c : Cls X.K C) (D : Mth X.prog X.w X.K X.mg X.base C m k ps sp) (hr : Room k X.A)
    (ht : eval (.Call (.Attribute o m apos) [] [] pos) X.env = (do
      let ov ← eval o X.env
      standAt apos.atName
      let (f, first) ← holding [ov] (getMethod ov m pl)
      callWith pos f first (backTo pos (starEach [] X.env)) (backToKw pos (keywordEach [] X.env))) := by rfl) :
    PE X (.Call (.Attribute o m apos) [] [] pos) (tMeth C m sp [] E0 ta tNil) := by
  obtain ⟨f, fd, F, hm, hb⟩ := D
  exact pe_meth0 he c hm F hr hb .nil pass0 ht
theorem pe_methND {pl : Sem Bool} (he : PE X o ta) (c : Cls X.K C) (D : MthK X.prog X.w X.K X.mg X.base C m k n ps ks sp) (hr : Room k X.A) (ha : PA X (e :: es) t) (hkw : PK X kws tk)
    (hall : (backToKw pos (keywordEach kws X.env)).all (·.1.isSome) = true := by rfl) (hks : (backToKw pos (keywordEach kws X.env)).filterMap (·.1) = ks := by rfl)
    (hst : starEach (e :: es) X.env = (false, eval e X.env) :: starEach es X.env := by rfl)
    (hpl : ((backTo pos (starEach (e :: es) X.env)).any (·.1) || (backToKw pos (keywordEach kws X.env)).any (·.1.isNone)) = false := by rfl)
    (ht : eval (.Call (.Attribute o m apos) (e :: es) kws pos) X.env = (do
      let ov ← eval o X.env
      standAt apos.atName
      let (f, first) ← holding [ov] (getMethod ov m pl)
      callWith pos f first (backTo pos (starEach (e :: es) X.env)) (backToKw pos (keywordEach kws X.env))) := by rfl) :
    PE X (.Call (.Attribute o m apos) (e :: es) kws pos) (tMethN C m n ks.length sp (fun vs zs => vs ++ zs) E0 ta t tk) := by
  obtain ⟨f, fd, F, hm, hb⟩ := D
  exact pe_methN he c hm F hr hb pass0 ha hkw hall hks hst hpl ht
theorem pe_makeD (D : MkD X.prog X.w X.K X.mg X.base C k ps sp) (hr : Room (k + 1) X.A) (hg : Gl X x) (hm : X.mg x = some (.ref C))
    (ha : PA X (e :: es) t) (hdb : (x == ("__debug__" : Str)) = false := by decide) (he : starEach (e :: es) X.env = (false, eval e X.env) :: starEach es X.env := by rfl) (hpl : (backTo pos (starEach es X.env)).any (·.1) = false := by rfl) :
    PE X (.Call (.Name x p) (e :: es) [] pos) (tMake C sp [] E0 t) := by
  obtain ⟨f, fd, F, M, hb⟩ := D
  exact pe_make M F hr hg hm hb .nil pass0 ha hdb he hpl
end
/-! ### what stands -/
def mfs (rt hl fl sp : Addr) : List (Str × V) := [("rows", .ref rt), ("left", .ref hl), ("found", .ref fl), ("spots", .ref sp)]
theorem mfs_rows (rt hl fl sp : Addr) : (mfs rt hl fl sp).lookup ("rows" : Str) = some (.ref rt) := by rfl
theorem mfs_left (rt hl fl sp : Addr) : (mfs rt hl fl sp).lookup ("left" : Str) = some (.ref hl) := by rfl
theorem mfs_found (rt hl fl sp : Addr) : (mfs rt hl fl sp).lookup ("found" : Str) = some (.ref fl) := by rfl
theorem mfs_spots (rt hl fl sp : Addr) : (mfs rt hl fl sp).lookup ("spots" : Str) = some (.ref sp) := by rfl
theorem mfs_put (rt hl fl sp : Addr) : (mfs rt hl fl sp).lookup ("put" : Str) = none := by rfl
theorem mfs_load (rt hl fl sp : Addr) : (mfs rt hl fl sp).lookup ("load" : Str) = none := by rfl
theorem mfs_make (rt hl fl sp : Addr) : (mfs rt hl fl sp).lookup ("make" : Str) = none := by rfl
theorem mfs_led (rt hl fl sp : Addr) : (mfs rt hl fl sp).lookup ("led" : Str) = none := by rfl
theorem mfs_mk (rt hl fl sp : Addr) : putF "spots" (.ref sp) (putF "found" (.ref fl) (putF "left" (.ref hl) (putF "rows" (.ref rt) []))) = mfs rt hl fl sp := by rfl
structure MkS (C : Addr) (H : Hp) (p rt hl fl sp : Addr) (vs0 : List V) (rows : List MR) (bs : List Bool) (krs : List KR) (spf : Int → Option Nat) (B : Nat) : Prop where
  ins : ∃ dx, H p = some (.ins C dx (mfs rt hl fl sp))
  ok : RowsOk H rt vs0 rows
  left : H hl = some (.lst (bs.map V.bl))
  leftLen : bs.length = rows.length
  found : ∃ xs, H fl = some (.lst xs) ∧ Paired (KRowV H) xs krs
  spots : ∃ kvs, H sp = some (.dK kvs) ∧ kvs.length ≤ B ∧ ∀ k, valV kvs (.inl k) = (spf k).map fun (j : Nat) => V.int (j : Int)
  apart : hl ≠ fl
def spPut (C : Addr) : Sp := fun vs H Q _ => ∃ (p t fl dx rt hl sp : Addr) (i : Int) (xs ys : List V), vs = [.ref p, .int i, .ref t] ∧ H p = some (.ins C dx (mfs rt hl fl sp)) ∧ H fl = some (.lst xs) ∧ xs.length ≤ 900000 ∧
  H t = some (.tup ys) ∧ ys ≠ [] ∧ ys.length ≤ 10 ∧ ∀ (q : Addr) (H' : Hp), Kp [fl] H H' → H q = none → H' fl = some (.lst (xs ++ [.ref q])) → H' q = some (.tup (ys ++ [.int i])) → Q .non H'
theorem scPut : FnScope ["self", "number", "row"] ["self", "number", "row"] (defScope (sMk 1)) := ⟨rfl, rfl, rfl, by decide +kernel, rfl, by decide +kernel, by decide +kernel⟩
theorem fn_put {f : Addr} {fd : FuncData} (F : Fun K "put" "Maker.put" (sMk 1) f fd) (T : McT K mg C) : FnOk P w K mg base CX0 1 f fd ["self", "number", "row"] (spPut C) := by
  have sc := scPut
  refine F.ok sc (fun vs H Q E h => ?_) (fun cdv A outer s0 H vs Q E hr h => ?_)
  · obtain ⟨p, t, fl, dx, rt, hl, sp, i, xs, ys, rfl, _⟩ := h
    rfl
  · obtain ⟨p, t, fl, dx, rt, hl, sp, i, xs, ys, rfl, hp, hfl, hxl, ht, hne, hyl, k⟩ := h
    refine ⟨_,
(pss_one (ps_expr (pe_bm PySem.F.plainAttrs_list PySem.F.slot_list_append PySem.F.type_list_append mt_append (pe_fld (pv 0) rfl) (pa_cons (pe_op op_catA (pv 2) (pe_tup (pa_cons (pv 1) pa_nil))) pa_nil))))
    , ?_⟩
    refine ⟨_, rfl, p, C, dx, _, _, rfl, hp, T.cl, T.nF, mfs_found .., .inl ⟨rfl, _, SqL.of hfl⟩, _, rfl, _, rfl, (by show 1 ≤ sizeLine; decide), fun t2 ht2 => ?_⟩
    have E1 := same_new (o := .tup [.int i]) ht2
    refine ⟨t, t2, ys, [.int i], rfl, rfl, SqT.of (E1 _ _ ht), SqT.of upd_same, sz (by simp; omega), fun z => absurd z hne, fun _ z => absurd z (by simp), fun _ _ q hq => ?_⟩
    have E2 := same_new (o := .tup (ys ++ [.int i])) hq
    have nq : q ≠ fl := (ne_of_none (E1 _ _ hfl) hq).symm
    refine ⟨fl, xs, _, rfl, rfl, E2 _ _ (E1 _ _ hfl), szl (by omega), ?_⟩
    exact k q _ ((Kp.same (E1.trans E2)).trans (Kp.upd (by simp))) (E1.free hq) upd_same ((upd_ne nq).trans upd_same)
theorem for_if {t : TT} {ta tb : TE} {g : TG} {body : TS} {D : Ends} {σ : St} {H : Hp} (N : Addr → Hp → Prop) (h1 : ∀ L H', N L H' → tFor (iList K (tC (.ref L))) g body D σ H')
    (h2 : ∀ Q' : VK, (∀ L H', N L H' → Q' (.ref L) H') → tIf t ta tb σ H Q') : tFor (iList K (tIf t ta tb)) g body D σ H := h2 _ fun L H' n => h1 L H' n
theorem krow_same {H H' : Hp} {v : V} {r : KR} (s : Same H H') (h : KRowV H v r) : KRowV H' v r := by
  obtain ⟨a, rfl, ha⟩ := h
  exact ⟨a, rfl, s _ _ ha⟩
theorem MkS.add {H H' : Hp} {p rt hl fl sp : Addr} {vs0 : List V} {rows : List MR} {bs : List Bool} {krs : List KR} {spf : Int → Option Nat} {B : Nat} (S : MkS C H p rt hl fl sp vs0 rows bs krs spf B) {xs : List V} (hx : H fl = some (.lst xs)) {q : Addr} {r : KR}
    (k : Kp [fl] H H') (h1 : H' fl = some (.lst (xs ++ [.ref q]))) (h2 : H' q = some (.tup r.tup)) : MkS C H' p rt hl fl sp vs0 rows bs (krs ++ [r]) spf B := by
  have off : ∀ {b : Addr} {o : HO}, H b = some o → (∀ ys, o ≠ .lst ys) → H' b = some o := fun {b o} e n => k b o (by
    simp only [List.mem_singleton]
    rintro rfl
    rw [hx] at e
    exact n _ (Option.some.inj e).symm) e
  obtain ⟨dx, h3⟩ := S.ins
  obtain ⟨ys, h4, h5⟩ := S.found
  rw [hx] at h4
  cases h4
  obtain ⟨kvs, h6, h7⟩ := S.spots
  refine ⟨⟨dx, off h3 (by intro _ z; cases z)⟩, S.ok.same fun b zs e => off e (by intro _ z; cases z), k _ _ (by simp [S.apart]) S.left, S.leftLen, ⟨_, h1, ?_⟩, ⟨kvs, off h6 (by intro _ z; cases z), h7⟩, S.apart⟩
  refine (Paired.mapP h5 fun v r' h => ?_).snoc ⟨q, rfl, h2⟩
  obtain ⟨a, rfl, ha⟩ := h
  exact ⟨a, rfl, off ha (by intro _ z; cases z)⟩
theorem MkS.kp {H H' : Hp} {p rt hl fl sp : Addr} {vs0 : List V} {rows : List MR} {bs : List Bool} {krs : List KR} {spf : Int → Option Nat} {B : Nat} (S : MkS C H p rt hl fl sp vs0 rows bs krs spf B) (s : Same H H') : MkS C H' p rt hl fl sp vs0 rows bs krs spf B := by
  obtain ⟨dx, h3⟩ := S.ins
  obtain ⟨ys, h4, h5⟩ := S.found
  obtain ⟨kvs, h6, h7⟩ := S.spots
  refine ⟨⟨dx, s _ _ h3⟩, S.ok.same fun b zs e => s _ _ e, s _ _ S.left, S.leftLen, ⟨ys, s _ _ h4, Paired.mapP h5 fun v r h => ?_⟩, ⟨kvs, s _ _ h6, h7⟩, S.apart⟩
  obtain ⟨a, rfl, ha⟩ := h
  exact ⟨a, rfl, s _ _ ha⟩
theorem MkS.len {H : Hp} {p rt hl fl sp : Addr} {vs0 : List V} {rows : List MR} {bs : List Bool} {krs : List KR} {spf : Int → Option Nat} {B : Nat} (S : MkS C H p rt hl fl sp vs0 rows bs krs spf B) {xs : List V} (hx : H fl = some (.lst xs)) : xs.length = krs.length := by
  obtain ⟨ys, h4, h5⟩ := S.found
  rw [hx] at h4
  cases h4
  exact h5.length
def spLoad (C : Addr) : Sp := fun vs H Q _ => ∃ (p rt hl fl sp : Addr) (vs0 : List V) (rows : List MR) (bs : List Bool) (krs : List KR) (spf : Int → Option Nat) (B i : Nat) (m : MR), vs = [.ref p, .int (i : Int)] ∧
  MkS C H p rt hl fl sp vs0 rows bs krs spf B ∧ rows[i]? = some m ∧ krs.length ≤ 800000 ∧
  ∀ H', Kp [fl] H H' → MkS C H' p rt hl fl sp vs0 rows bs (krs ++ (loadsOf bs i m).map fun c => KR.load c (i : Int)) spf B → Q .non H'
theorem scLoad : FnScope ["self", "number", "some", "cell"] ["self", "number"] (defScope (sMk 2)) := ⟨rfl, rfl, rfl, by decide +kernel, rfl, by decide +kernel, by decide +kernel⟩
theorem fn_load {f : Addr} {fd : FuncData} (F : Fun K "load" "Maker.load" (sMk 2) f fd) (TM : McT K mg C)
    (D_put : MthK P w K mg base C "put" 1 2 ["self", "number", "row"] ["row"] (spPut C))
    (D_read_by : Dfn P w K mg base "read_by" 1 ["row"] spReadBy) : FnOk P w K mg base CX0 2 f fd ["self", "number"] (spLoad C) := by
  have sc := scLoad
  refine F.ok sc (fun vs H Q E h => ?_) (fun cdv A outer s0 H vs Q E hr h => ?_)
  · obtain ⟨p, rt, hl, fl, sp, vs0, rows, bs, krs, spf, B, i, m, rfl, _⟩ := h
    rfl
  · obtain ⟨p, rt, hl, fl, sp, vs0, rows, bs, krs, spf, B, i, m, rfl, S, em, hkl, k⟩ := h
    obtain ⟨dx, hp⟩ := S.ins
    obtain ⟨v, hv, a, b, pp, rfl, ha, hb⟩ := paired_at S.ok.ent em
    refine ⟨_,
(pss_cons (ps_set (i := 2) sc.nd rfl (Or.inl rfl) (pe_callD D_read_by (hr.mono (by omega)) (by rfl) (pa_cons (pe_ix ix_tup (pe_fld (pv 0) rfl) (pv 1) (fun _ _ => rfl)) pa_nil)))
(pss_one (ps_for PassesOwn.never rfl (pi_list (pe_ifExp (PW.pt (pw_and (pt_cmpR op_gt (pv 1) pe_int (nomark _)) (pw_and1 (pt_val (pe_ix ix_list (pe_fld (pv 0) rfl) (pe_op op_sub (pv 1) pe_int) (fun _ _ => rfl)))))) (pe_slice sl_list (pv 2) (po_some pe_int) po_none) (pv 2))) (pg_name (i := 3) sc.nd rfl (Or.inl rfl))
(pss_one (ps_expr (pe_methND (pv 0) TM.cl D_put (hr.mono (by decide)) (pa_cons (pv 1) pa_nil) (pk_cons (pe_tup (pa_cons pe_str (pa_cons (pv 3) pa_nil))) pk_nil)))))))
    , ?_⟩
    refine ⟨_, rfl, p, C, dx, _, _, rfl, hp, TM.cl, TM.nR, mfs_rows .., _, rfl, _, _, _, _, rfl, rfl, SqT.of S.ok.tup, atI_nat hv, _, m, rfl, ⟨a, b, pp, rfl, ha, hb⟩, fun H1 q S1 hq0 hq1 => ?_⟩
    dsimp only [gName]
    show tFor _ _ _ _ [some (.ref p), some (.int (i : Int)), some (.ref q), none] H1
    refine for_if (fun L H' => H' L = some (.lst ((loadsOf bs i m).map V.int)) ∧ L ≠ fl ∧ Same H H') ?_ (fun Q' hq => ?_)
    · rintro L H2 ⟨hL, nL, S2⟩
      refine ⟨L, rfl, ⟨_, SqL.of hL⟩, ?_⟩
      refine for_list (K := K) (a := L) (xs := (loadsOf bs i m).map V.int) (fun j σ' H' => ∃ x3, σ' = [some (.ref p), some (.int (i : Int)), some (.ref q), x3] ∧ Kp [fl] H2 H' ∧
        MkS C H' p rt hl fl sp vs0 rows bs (krs ++ ((loadsOf bs i m).take j).map fun c => KR.load c (i : Int)) spf B) ?_ ?_ ?_ ?_
      · exact ⟨none, rfl, Kp.refl _ _, by simpa using S.kp S2⟩
      · rintro j σ' H3 _ ⟨_, _, K3, _⟩
        exact SqL.of (K3 _ _ (by simp [nL]) hL)
      · rintro j x σ' H3 hx ⟨x3, rfl, K3, S3⟩
        rw [List.getElem?_map] at hx
        obtain ⟨c, hc, rfl⟩ := Option.map_eq_some_iff.mp hx
        have hj := (List.getElem?_eq_some_iff.mp hc).1
        obtain ⟨dx3, hp3⟩ := S3.ins
        obtain ⟨xs3, hf3, hpr3⟩ := S3.found
        have hl3 := hpr3.length
        have hlo : (loadsOf bs i m).length ≤ 3 := by
          have h3 := S.ok.rd m (List.mem_of_getElem? em)
          unfold loadsOf
          split
          · rw [List.length_drop]; omega
          · exact h3
        rw [List.length_append, List.length_map, List.length_take] at hl3
        dsimp only [gName]
        refine ⟨_, rfl, p, dx3, _, rfl, hp3, mfs_put .., _, rfl, _, rfl, (by show 2 ≤ sizeLine; decide), fun t ht => ⟨rfl, rfl, ?_⟩⟩
        have Et := same_new (o := .tup [.str "load", .int c]) ht
        refine ⟨p, t, fl, dx3, rt, hl, sp, (i : Int), xs3, [.str "load", .int c], rfl, Et _ _ hp3, Et _ _ hf3, by omega, upd_same, by simp, by simp, fun q4 H4 K4 hq4 hf4 ht4 => ?_⟩
        refine ⟨_, rfl, K3.trans ((Kp.same Et).trans K4), ?_⟩
        have := (S3.kp Et).add (Et _ _ hf3) (r := .load c (i : Int)) K4 hf4 ht4
        rw [List.append_assoc] at this
        rw [List.take_succ, hc, List.map_append]
        exact this
      · rintro σ' H3 ⟨x3, rfl, K3, S3⟩
        rw [List.length_map, List.take_length] at S3
        exact k H3 ((Kp.same S2).trans K3) S3
    · have hp1 := S1 _ _ hp
      have nq : q ≠ fl := by
        obtain ⟨xs, hf, _⟩ := S.found
        exact (ne_of_none hf hq0).symm
      refine ⟨_, rfl, _, _, rfl, rfl, _, rfl, ?_⟩
      refine iB (fun h0 => ?_) (fun h0 => ?_)
      · have hi0 : 0 < i := by simpa using h0
        have hlb : i - 1 < bs.length := by
          have := (List.getElem?_eq_some_iff.mp em).1
          rw [S.leftLen]
          omega
        refine ⟨_, rfl, p, C, dx, _, _, rfl, hp1, TM.cl, TM.nL, mfs_left .., _, rfl, _, _, rfl, rfl, _, _, _, _, rfl, rfl, SqL.of (S1 _ _ S.left), by rw [show ((i : Int) - 1) = ((i - 1 : Nat) : Int) by omega]; exact atI_nat (by rw [List.getElem?_map, List.getElem?_eq_getElem hlb]; rfl), _, rfl, ?_⟩
        have hla : leftAt bs (i - 1) = bs[i - 1] := by
          unfold leftAt
          rw [List.getElem?_eq_getElem hlb]
        refine iB (fun h1 => ?_) (fun h1 => ?_)
        · refine ⟨_, rfl, _, rfl, q, _, rfl, SqL.of hq1, fun L hL => hq _ _ ⟨?_, ?_, S1.trans (same_new hL)⟩⟩
          · rw [upd_same, cut_rest, loadsOf, if_pos ⟨hi0, hla.trans h1⟩, List.map_drop]
          · obtain ⟨xs, hf, _⟩ := S.found
            exact (ne_of_none (S1 _ _ hf) hL).symm
        · refine ⟨_, rfl, hq _ _ ⟨?_, nq, S1⟩⟩
          rw [hq1, loadsOf, if_neg (fun z => by rw [hla, h1] at z; cases z.2)]
      · have hi0 : ¬ (0 < i) := by simpa using h0
        refine iF rfl ⟨_, rfl, hq _ _ ⟨?_, nq, S1⟩⟩
        rw [hq1, loadsOf, if_neg (fun z => hi0 z.1)]
theorem put_row {H : Hp} {p rt hl fl sp t : Addr} {vs0 : List V} {rows : List MR} {bs : List Bool} {krs : List KR} {spf : Int → Option Nat} {B : Nat} (S : MkS C H p rt hl fl sp vs0 rows bs krs spf B) (ht : H t = none) (r : KR) (hkl : krs.length ≤ 800000)
    {Q : VK} {E : XK} (k : ∀ H', Kp [fl] H H' → MkS C H' p rt hl fl sp vs0 rows bs (krs ++ [r]) spf B → Q .non H') : spPut C [.ref p, .int r.k, .ref t] (upd H t (.tup (.str r.word :: r.rest))) Q E := by
  obtain ⟨dx, hp⟩ := S.ins
  obtain ⟨xs, hf, hpr⟩ := S.found
  have hlen := hpr.length
  have Et := same_new (o := .tup (.str r.word :: r.rest)) ht
  refine ⟨p, t, fl, dx, rt, hl, sp, r.k, xs, _, rfl, Et _ _ hp, Et _ _ hf, by omega, upd_same, by simp, ?_, fun q H' K' hq hf' hq' => ?_⟩
  · cases r <;> simp [KR.rest]
  · exact k H' ((Kp.same Et).trans K') ((S.kp Et).add (Et _ _ hf) K' hf' hq')
def spMake (C : Addr) : Sp := fun vs H Q _ => ∃ (p ra rt hl fl sp : Addr) (vs0 : List V) (rows : List MR) (bs : List Bool) (i : Nat) (m : MR), vs = [.ref p, .int (i : Int), .ref ra] ∧ RowV H (.ref ra) m ∧
  MkS C H p rt hl fl sp vs0 rows bs (codeTo rows bs i) (spotTo rows bs i) i ∧ rows[i]? = some m ∧
  ∀ H', Kp [fl, sp] H H' → MkS C H' p rt hl fl sp vs0 rows bs (codeTo rows bs (i + 1)) (spotTo rows bs (i + 1)) (i + 1) → Q .non H'
theorem scMake : FnScope ["self", "number", "row", "word"] ["self", "number", "row"] (defScope (sMk 3)) := ⟨rfl, rfl, rfl, by decide +kernel, rfl, by decide +kernel, by decide +kernel⟩
theorem fn_make {f : Addr} {fd : FuncData} (F : Fun K "make" "Maker.make" (sMk 3) f fd) (T : Blt K mg aO aL) (TM : McT K mg C)
    (D_put : MthK P w K mg base C "put" 1 2 ["self", "number", "row"] ["row"] (spPut C))
    (D_load : Mth P w K mg base C "load" 2 ["self", "number"] (spLoad C))
    (D_laid_by : Dfn P w K mg base "laid_by" 1 ["row"] spLaidBy) : FnOk P w K mg base CX0 3 f fd ["self", "number", "row"] (spMake C) := by
  have sc := scMake
  refine F.ok sc (fun vs H Q E h => ?_) (fun cdv A outer s0 H vs Q E hr h => ?_)
  · obtain ⟨p, ra, rt, hl, fl, sp, vs0, rows, bs, i, m, rfl, _⟩ := h
    rfl
  · obtain ⟨p, ra, rt, hl, fl, sp, vs0, rows, bs, i, m, rfl, ⟨ra', rb, rp, era, ha, hb⟩, S, em, k⟩ := h
    cases era
    have hu := hu_of hr
    have hin := (List.getElem?_eq_some_iff.mp em).1
    have hlen := S.ok.len
    have hkl := codeTo_len (bs := bs) S.ok.rd i
    obtain ⟨dx, hp⟩ := S.ins
    refine ⟨_,
(pss_cons (ps_set (i := 3) sc.nd rfl (Or.inl rfl) (pe_ix ix_tup (pv 2) pe_int (fun _ _ => rfl)))
(pss_cons (ps_if (pt_cmpR op_eq (pv 3) pe_str (nomark _))
(pss_cons (ps_dput hu (pe_fld (pv 0) rfl) (pe_ix ix_tup (pv 2) pe_int (fun _ _ => rfl)) (pe_callB (call_len) (by rfl) T.len PySem.boot_len (pa_cons (pe_fld (pv 0) rfl) pa_nil)) rfl)
(pss_one ps_retN))
pss_nil)
(pss_cons (ps_expr (pe_methD (pv 0) TM.cl D_load (hr.mono (by decide)) (pa_cons (pv 1) pa_nil)))
(pss_cons (ps_if (pt_cmpR op_eq (pv 3) pe_str (nomark _))
(pss_one (ps_expr (pe_methND (pv 0) TM.cl D_put (hr.mono (by decide)) (pa_cons (pv 1) pa_nil) (pk_cons (pe_tup (pa_cons pe_str pa_nil)) pk_nil))))
(pss_one (ps_if (pt_cmpR op_eq (pv 3) pe_str (nomark _))
(pss_one (ps_expr (pe_methND (pv 0) TM.cl D_put (hr.mono (by decide)) (pa_cons (pv 1) pa_nil) (pk_cons (pe_tup (pa_cons pe_str (pa_cons (pe_ix ix_tup (pv 2) pe_int (fun _ _ => rfl)) pa_nil))) pk_nil))))
(pss_one (ps_if (pt_cmpR op_eq (pv 3) pe_str (nomark _))
(pss_one (ps_expr (pe_methND (pv 0) TM.cl D_put (hr.mono (by decide)) (pa_cons (pv 1) pa_nil) (pk_cons (pe_tup (pa_cons pe_str (pa_cons (pe_ix ix_tup (pv 2) pe_int (fun _ _ => rfl)) (pa_cons (pe_ix ix_tup (pv 2) pe_int (fun _ _ => rfl)) pa_nil)))) pk_nil))))
(pss_one (ps_if (pt_inT hu (pv 3) (pas_cons (pas_cons (pas_cons pas_nil))) (by decide))
(pss_one (ps_expr (pe_methND (pv 0) TM.cl D_put (hr.mono (by decide)) (pa_cons (pv 1) pa_nil) (pk_cons (pe_tup (pa_cons (pe_ifExp (pt_cmpR op_eq (pv 3) pe_str (nomark _)) pe_str (pv 3)) (pa_cons (pe_ix ix_tup (pv 2) pe_int (fun _ _ => rfl)) pa_nil))) pk_nil))))
(pss_one (ps_if (pt_cmpR op_eq (pv 3) pe_str (nomark _))
(pss_one (ps_expr (pe_methND (pv 0) TM.cl D_put (hr.mono (by decide)) (pa_cons (pv 1) pa_nil) (pk_cons (pe_tup (pa_cons pe_str (pa_cons (pe_ix ix_tup (pv 2) pe_int (fun _ _ => rfl)) pa_nil))) pk_nil))))
(pss_one (ps_if (pt_cmpR op_eq (pv 3) pe_str (nomark _))
(pss_one (ps_expr (pe_methND (pv 0) TM.cl D_put (hr.mono (by decide)) (pa_cons (pv 1) pa_nil) (pk_cons (pe_tup (pa_cons pe_str (pa_cons (pe_ix ix_tup (pv 2) pe_int (fun _ _ => rfl)) (pa_cons (pe_ix ix_tup (pv 2) pe_int (fun _ _ => rfl)) (pa_cons (pe_callB (call_len) (by rfl) T.len PySem.boot_len (pa_cons (pe_ix ix_tup (pv 2) pe_int (fun _ _ => rfl)) pa_nil)) pa_nil))))) pk_nil))))
(pss_one (ps_if (pt_cmpR op_eq (pv 3) pe_str (nomark _))
(pss_one (ps_expr (pe_methND (pv 0) TM.cl D_put (hr.mono (by decide)) (pa_cons (pv 1) pa_nil) (pk_cons (pe_tup (pa_cons pe_str (pa_cons (pe_callTy (call_int1) (by rfl) T.int (by decide +kernel) (pa_cons (pe_cmpR op_notN (pe_ix ix_tup (pv 2) pe_int (fun _ _ => rfl)) pe_non (nomark _)) pa_nil)) pa_nil))) pk_nil))))
(pss_one (ps_if (pt_cmpR op_ne (pv 3) pe_str (nomark _))
(pss_one (ps_expr (pe_methND (pv 0) TM.cl D_put (hr.mono (by decide)) (pa_cons (pv 1) pa_nil) (pk_cons (pe_tup (pa_cons (pv 3) pa_nil)) pk_nil))))
pss_nil)))))))))))))))
(pss_one (ps_if (PW.pt (pw_and (pt_cmpR op_notN (pe_callD D_laid_by (hr.mono (by omega)) (by rfl) (pa_cons (pv 2) pa_nil)) pe_non (nomark _)) (pw_and1 (pt_not (pt_val (pe_ix ix_list (pe_fld (pv 0) rfl) (pv 1) (fun _ _ => rfl)))))))
(pss_one (ps_expr (pe_methND (pv 0) TM.cl D_put (hr.mono (by decide)) (pa_cons (pv 1) pa_nil) (pk_cons (pe_tup (pa_cons pe_str (pa_cons (pe_callD D_laid_by (hr.mono (by omega)) (by rfl) (pa_cons (pv 2) pa_nil)) pa_nil))) pk_nil))))
pss_nil))))))
    , ?_⟩
    refine ⟨_, rfl, _, _, _, _, rfl, rfl, SqT.of ha, (at0 m rb rp), ?_⟩
    have notlab : (∀ l, m ≠ .label l) → decide (V.str m.word = V.str "label") = false := fun hn => by
      cases m with
      | label l => exact absurd rfl (hn l)
      | op o _ _ _ => cases o <;> rfl
      | _ => rfl
    by_cases hlab : ∃ l, m = .label l
    · obtain ⟨l, rfl⟩ := hlab
      refine ⟨_, rfl, rfl, _, rfl, iT (by rfl) ?_⟩
      obtain ⟨xs, hf, hpr⟩ := S.found
      obtain ⟨kvs, hs, hsl, hsv⟩ := S.spots
      have hxl := hpr.length
      refine ⟨_, rfl, p, C, dx, _, _, rfl, hp, TM.cl, TM.nF, mfs_found .., _, xs.length, rfl, .inl ⟨_, SqL.of hf, rfl⟩, _, rfl, p, C, dx, _, _, rfl, hp, TM.cl, TM.nS, mfs_spots .., _, rfl, _, _, _, _, rfl, rfl, SqT.of ha, rfl, sp, _, rfl, .inl ⟨kvs, .inl l, hs, rfl, szl (by omega), rfl⟩, ?_⟩
      refine k _ (Kp.upd (by simp)) ?_
      have off : ∀ {b : Addr} {o : HO}, H b = some o → (∀ ys, o ≠ .dK ys) → (upd H sp (.dK (putK kvs (.inl l) (.int (xs.length : Int))))) b = some o := fun {b o} e n => by
        rw [upd_ne]
        · exact e
        · rintro rfl
          rw [hs] at e
          exact n _ (Option.some.inj e).symm
      have hc : codeTo rows bs (i + 1) = codeTo rows bs i := by
        show codeTo rows bs i ++ (match rows[i]? with | some m => emit bs i m | none => []) = _
        rw [em]
        exact List.append_nil _
      rw [hc]
      refine ⟨⟨dx, off hp (by intro _ z; cases z)⟩, S.ok.same fun b zs e => off e (by intro _ z; cases z), off S.left (by intro _ z; cases z), S.leftLen, ⟨xs, off hf (by intro _ z; cases z), Paired.mapP hpr fun v r h => ?_⟩, ⟨_, upd_same, Nat.le_trans (length_putK _ _ _) (by omega), fun k2 => ?_⟩, S.apart⟩
      · obtain ⟨a, rfl, h⟩ := h
        exact ⟨a, rfl, off h (by intro _ z; cases z)⟩
      · rw [valV_put, hxl]
        show _ = (if rows[i]? = some (.label k2) then some (codeTo rows bs i).length else spotTo rows bs i k2).map _
        rw [em]
        by_cases e : k2 = l
        · subst e
          rw [if_pos rfl, if_pos rfl]
          rfl
        · rw [if_neg (fun z => e (Sum.inl.inj z)), if_neg (fun z => e (by cases z; rfl)), hsv]
    · have hlab' : ∀ l, m ≠ .label l := fun l z => hlab ⟨l, z⟩
      refine ⟨_, rfl, rfl, _, rfl, iF (notlab hlab') ?_⟩
      refine ⟨_, rfl, p, dx, _, rfl, hp, mfs_load .., _, rfl, p, rt, hl, fl, sp, vs0, rows, bs, codeTo rows bs i, spotTo rows bs i, i, i, m, rfl, S, em, by omega, fun H1 K1 S1 => ?_⟩
      have hkl1 : (codeTo rows bs i ++ (loadsOf bs i m).map fun c => KR.load c (i : Int)).length ≤ 5 * i + 3 := by
        have h3 := S.ok.rd m (List.mem_of_getElem? em)
        rw [List.length_append, List.length_map]
        have : (loadsOf bs i m).length ≤ 3 := by
          unfold loadsOf
          split
          · rw [List.length_drop]; omega
          · exact h3
        omega
      generalize hg1 : codeTo rows bs i ++ (loadsOf bs i m).map (fun c => KR.load c (i : Int)) = g1 at S1 hkl1
      have offK : ∀ {H' : Hp}, Kp [fl] H H' → ∀ {b : Addr} {zs : List V}, H b = some (.tup zs) → H' b = some (.tup zs) := fun {H'} K' {b zs} e => K' b _ (by
        obtain ⟨xs, hf, _⟩ := S.found
        simp only [List.mem_singleton]
        exact ne_of e hf (by intro z; cases z)) e
      dsimp only
      show tSeq _ _ _ [some (.ref p), some (.int (i : Int)), some (.ref ra), some (.str m.word)] H1
      refine seq_cut (fun σ' H' => σ' = [some (.ref p), some (.int (i : Int)), some (.ref ra), some (.str m.word)] ∧ Kp [fl] H H' ∧ MkS C H' p rt hl fl sp vs0 rows bs (g1 ++ midOf (i : Int) m) (spotTo rows bs i) i) ?_ (fun nx hn => ?_)
      · rintro _ H2 ⟨rfl, K2, S2⟩
        have ha2 := offK K2 ha
        have hb2 : m.aux H2 rb := by
          cases m <;> first | trivial | exact offK K2 hb
        obtain ⟨dx2, hp2⟩ := S2.ins
        have hc : codeTo rows bs (i + 1) = (g1 ++ midOf (i : Int) m) ++ storeOf bs i m := by
          show codeTo rows bs i ++ (match rows[i]? with | some m => emit bs i m | none => []) = _
          rw [em, ← hg1]
          dsimp only
          have he : emit bs i m = (loadsOf bs i m).map (fun c => KR.load c (i : Int)) ++ midOf (i : Int) m ++ storeOf bs i m := by
            unfold emit
            split
            · exact absurd rfl (hlab' _)
            · rfl
          rw [he]
          simp [List.append_assoc]
        have hsp : ∀ k2, spotTo rows bs (i + 1) k2 = spotTo rows bs i k2 := fun k2 => by
          show (if rows[i]? = some (.label k2) then some (codeTo rows bs i).length else spotTo rows bs i k2) = _
          rw [em, if_neg (fun z => hlab' k2 (Option.some.inj z))]
        have hsp' : spotTo rows bs (i + 1) = spotTo rows bs i := funext hsp
        have fin : ∀ H3, Kp [fl] H H3 → MkS C H3 p rt hl fl sp vs0 rows bs (codeTo rows bs (i + 1)) (spotTo rows bs i) i → Q .non H3 := fun H3 K3 S3 => by
          refine k H3 (K3.mono (by simp)) ?_
          rw [hsp']
          obtain ⟨kvs, q1, q2, q3⟩ := S3.spots
          exact ⟨S3.ins, S3.ok, S3.left, S3.leftLen, S3.found, ⟨kvs, q1, by omega, q3⟩, S3.apart⟩
        refine ⟨_, rfl, _, m, rfl, ⟨ra, rb, rp, rfl, ha2, hb2⟩, (by cases m.lays <;> rfl), _, rfl, ?_⟩
        have hgl : (g1 ++ midOf (i : Int) m).length ≤ 800000 := by
          have : (midOf (i : Int) m).length ≤ 1 := by cases m <;> simp [midOf]
          rw [List.length_append]
          omega
        cases hla : m.lays with
        | none =>
          refine iF (by rfl) (iF rfl (fin H2 K2 ?_))
          rw [hc, storeOf, hla, List.append_nil]
          exact S2
        | some c =>
          have hlb : i < bs.length := by rw [S.leftLen]; exact hin
          refine iT (by rfl) ⟨_, rfl, p, C, dx2, _, _, rfl, hp2, TM.cl, TM.nL, mfs_left .., _, rfl, _, _, _, _, rfl, rfl, SqL.of S2.left, atI_nat (by rw [List.getElem?_map, List.getElem?_eq_getElem hlb]; rfl), _, rfl, ?_⟩
          have hle : leftAt bs i = bs[i] := by
            unfold leftAt
            rw [List.getElem?_eq_getElem hlb]
          cases hb3 : bs[i] with
          | true =>
            refine iF rfl (fin H2 K2 ?_)
            rw [hc, storeOf, hla]
            dsimp only
            rw [if_pos (hle.trans hb3), List.append_nil]
            exact S2
          | false =>
            refine iT rfl ⟨_, rfl, p, dx2, _, rfl, hp2, mfs_put .., _, rfl, _, rfl, _, m, rfl, ⟨ra, rb, rp, rfl, ha2, hb2⟩, (by show 2 ≤ sizeLine; decide), fun t ht => ⟨rfl, rfl, ?_⟩⟩
            rw [hla]
            refine put_row S2 ht (.store c (i : Int)) hgl fun H3 K3 S3 => fin H3 (K2.trans K3) ?_
            rw [hc, storeOf, hla]
            dsimp only
            rw [if_neg (by rw [hle, hb3]; decide)]
            exact S3
      · have ha1 := offK K1 ha
        obtain ⟨dx1, hp1⟩ := S1.ins
        have done : ∀ {H2 : Hp} {t : Addr} (r : KR), (H1 = H2) → H1 t = none → r.k = (i : Int) → midOf (i : Int) m = [r] → 
            spPut C [.ref p, .int (i : Int), .ref t] (upd H1 t (.tup (.str r.word :: r.rest))) (fun _ H' => nx [some (.ref p), some (.int (i : Int)), some (.ref ra), some (.str m.word)] H') E0 := fun {H2 t} r e ht hk hm => by
          rw [← hk]
          refine put_row S1 ht r (by omega) fun H3 K3 S3 => ?_
          rw [hk]
          exact hn _ _ ⟨rfl, K1.trans K3, by rw [hm]; exact S3⟩
        have hb1 : m.aux H1 rb := by
          cases m <;> first | trivial | exact offK K1 hb
        cases m with
        | beg => exact ⟨_, rfl, rfl, _, rfl, iT (by rfl) ⟨_, rfl, p, dx1, _, rfl, hp1, mfs_put .., _, rfl, (by show 1 ≤ sizeLine; decide), fun t ht => ⟨rfl, rfl, done (.row i) (H2 := H1) rfl ht rfl rfl⟩⟩⟩
        | put c n => exact ⟨_, rfl, rfl, _, rfl, iF (by rfl) ⟨_, rfl, rfl, _, rfl, iT (by rfl) ⟨_, rfl, p, dx1, _, rfl, hp1, mfs_put .., _, rfl, _, rfl, _, _, _, _, rfl, rfl, SqT.of ha1, rfl, (by show 2 ≤ sizeLine; decide), fun t ht => ⟨rfl, rfl, done (.push n i) (H2 := H1) rfl ht rfl rfl⟩⟩⟩⟩
        | fetch c f n => exact ⟨_, rfl, rfl, _, rfl, iF (by rfl) ⟨_, rfl, rfl, _, rfl, iF (by rfl) ⟨_, rfl, rfl, _, rfl, iT (by rfl) ⟨_, rfl, p, dx1, _, rfl, hp1, mfs_put .., _, rfl, _, rfl, _, _, _, _, rfl, rfl, SqT.of ha1, rfl, _, rfl, _, _, _, _, rfl, rfl, SqT.of ha1, rfl, (by show 3 ≤ sizeLine; decide), fun t ht => ⟨rfl, rfl, done (.fetch f n i) (H2 := H1) rfl ht rfl rfl⟩⟩⟩⟩⟩
        | lay n c => exact ⟨_, rfl, rfl, _, rfl, iF (by rfl) ⟨_, rfl, rfl, _, rfl, iF (by rfl) ⟨_, rfl, rfl, _, rfl, iF (by rfl) ⟨_, rfl, .inl rfl, iT (by rfl) ⟨_, rfl, p, dx1, _, rfl, hp1, mfs_put .., _, rfl, _, rfl, rfl, _, rfl, iF (by rfl) ⟨_, rfl, _, rfl, _, _, _, _, rfl, rfl, SqT.of ha1, rfl, (by show 2 ≤ sizeLine; decide), fun t ht => ⟨rfl, rfl, done (.lay n i) (H2 := H1) rfl ht rfl rfl⟩⟩⟩⟩⟩⟩⟩
        | say kd c => exact ⟨_, rfl, rfl, _, rfl, iF (by rfl) ⟨_, rfl, rfl, _, rfl, iF (by rfl) ⟨_, rfl, rfl, _, rfl, iF (by rfl) ⟨_, rfl, .inl rfl, iT (by rfl) ⟨_, rfl, p, dx1, _, rfl, hp1, mfs_put .., _, rfl, _, rfl, rfl, _, rfl, iF (by rfl) ⟨_, rfl, _, rfl, _, _, _, _, rfl, rfl, SqT.of ha1, rfl, (by show 2 ≤ sizeLine; decide), fun t ht => ⟨rfl, rfl, done (.say kd i) (H2 := H1) rfl ht rfl rfl⟩⟩⟩⟩⟩⟩⟩
        | go l => exact ⟨_, rfl, rfl, _, rfl, iF (by rfl) ⟨_, rfl, rfl, _, rfl, iF (by rfl) ⟨_, rfl, rfl, _, rfl, iF (by rfl) ⟨_, rfl, .inl rfl, iT (by rfl) ⟨_, rfl, p, dx1, _, rfl, hp1, mfs_put .., _, rfl, _, rfl, rfl, _, rfl, iT (by rfl) ⟨_, rfl, _, _, _, _, rfl, rfl, SqT.of ha1, rfl, (by show 2 ≤ sizeLine; decide), fun t ht => ⟨rfl, rfl, done (.jump l i) (H2 := H1) rfl ht rfl rfl⟩⟩⟩⟩⟩⟩⟩
        | unl c l => exact ⟨_, rfl, rfl, _, rfl, iF (by rfl) ⟨_, rfl, rfl, _, rfl, iF (by rfl) ⟨_, rfl, rfl, _, rfl, iF (by rfl) ⟨_, rfl, .inl rfl, iF (by rfl) ⟨_, rfl, rfl, _, rfl, iT (by rfl) ⟨_, rfl, p, dx1, _, rfl, hp1, mfs_put .., _, rfl, _, rfl, _, _, _, _, rfl, rfl, SqT.of ha1, rfl, (by show 2 ≤ sizeLine; decide), fun t ht => ⟨rfl, rfl, done (.unl l i) (H2 := H1) rfl ht rfl rfl⟩⟩⟩⟩⟩⟩⟩
        | call co f n as => exact ⟨_, rfl, rfl, _, rfl, iF (by rfl) ⟨_, rfl, rfl, _, rfl, iF (by rfl) ⟨_, rfl, rfl, _, rfl, iF (by rfl) ⟨_, rfl, .inl rfl, iF (by rfl) ⟨_, rfl, rfl, _, rfl, iF (by rfl) ⟨_, rfl, rfl, _, rfl, iT (by rfl) ⟨_, rfl, p, dx1, _, rfl, hp1, mfs_put .., _, rfl, _, rfl, _, _, _, _, rfl, rfl, SqT.of ha1, rfl, _, rfl, _, _, _, _, rfl, rfl, SqT.of ha1, rfl, _, rfl, _, _, _, _, rfl, rfl, SqT.of ha1, rfl, _, as.length, rfl, .inr ⟨_, SqT.of hb1, (List.length_map _).symm⟩, (by show 4 ≤ sizeLine; decide), fun t ht => ⟨rfl, rfl, done (.call f n (as.length : Int) i) (H2 := H1) rfl ht rfl rfl⟩⟩⟩⟩⟩⟩⟩⟩
        | give c =>
          cases c with
          | none => exact ⟨_, rfl, rfl, _, rfl, iF (by rfl) ⟨_, rfl, rfl, _, rfl, iF (by rfl) ⟨_, rfl, rfl, _, rfl, iF (by rfl) ⟨_, rfl, .inl rfl, iF (by rfl) ⟨_, rfl, rfl, _, rfl, iF (by rfl) ⟨_, rfl, rfl, _, rfl, iF (by rfl) ⟨_, rfl, rfl, _, rfl, iT (by rfl) ⟨_, rfl, p, dx1, _, rfl, hp1, mfs_put .., _, rfl, _, rfl, _, _, _, _, rfl, rfl, SqT.of ha1, rfl, rfl, .inr ⟨_, rfl, (by show 2 ≤ sizeLine; decide), fun t ht => ⟨rfl, rfl, done (.give 0 i) (H2 := H1) rfl ht rfl rfl⟩⟩⟩⟩⟩⟩⟩⟩⟩⟩
          | some c => exact ⟨_, rfl, rfl, _, rfl, iF (by rfl) ⟨_, rfl, rfl, _, rfl, iF (by rfl) ⟨_, rfl, rfl, _, rfl, iF (by rfl) ⟨_, rfl, .inl rfl, iF (by rfl) ⟨_, rfl, rfl, _, rfl, iF (by rfl) ⟨_, rfl, rfl, _, rfl, iF (by rfl) ⟨_, rfl, rfl, _, rfl, iT (by rfl) ⟨_, rfl, p, dx1, _, rfl, hp1, mfs_put .., _, rfl, _, rfl, _, _, _, _, rfl, rfl, SqT.of ha1, rfl, rfl, .inr ⟨_, rfl, (by show 2 ≤ sizeLine; decide), fun t ht => ⟨rfl, rfl, done (.give 1 i) (H2 := H1) rfl ht rfl rfl⟩⟩⟩⟩⟩⟩⟩⟩⟩⟩
        | nothing => exact ⟨_, rfl, rfl, _, rfl, iF (by rfl) ⟨_, rfl, rfl, _, rfl, iF (by rfl) ⟨_, rfl, rfl, _, rfl, iF (by rfl) ⟨_, rfl, .inl rfl, iF (by rfl) ⟨_, rfl, rfl, _, rfl, iF (by rfl) ⟨_, rfl, rfl, _, rfl, iF (by rfl) ⟨_, rfl, rfl, _, rfl, iF (by rfl) ⟨_, rfl, rfl, _, rfl, iT (by rfl) ⟨_, rfl, p, dx1, _, rfl, hp1, mfs_put .., _, rfl, _, rfl, (by show 1 ≤ sizeLine; decide), fun t ht => ⟨rfl, rfl, done (.nothing i) (H2 := H1) rfl ht rfl rfl⟩⟩⟩⟩⟩⟩⟩⟩⟩⟩
        | op o c d e => exact ⟨_, rfl, rfl, _, rfl, iF (by cases o <;> rfl) ⟨_, rfl, rfl, _, rfl, iF (by cases o <;> rfl) ⟨_, rfl, rfl, _, rfl, iF (by cases o <;> rfl) ⟨_, rfl, .inl rfl, iF (by cases o <;> rfl) ⟨_, rfl, rfl, _, rfl, iF (by cases o <;> rfl) ⟨_, rfl, rfl, _, rfl, iF (by cases o <;> rfl) ⟨_, rfl, rfl, _, rfl, iF (by cases o <;> rfl) ⟨_, rfl, rfl, _, rfl, iT (by cases o <;> rfl) ⟨_, rfl, p, dx1, _, rfl, hp1, mfs_put .., _, rfl, _, rfl, (by show 1 ≤ sizeLine; decide), fun t ht => ⟨rfl, rfl, done (.op o i) (H2 := H1) rfl ht rfl rfl⟩⟩⟩⟩⟩⟩⟩⟩⟩⟩
        | copy c d => exact ⟨_, rfl, rfl, _, rfl, iF (by rfl) ⟨_, rfl, rfl, _, rfl, iF (by rfl) ⟨_, rfl, rfl, _, rfl, iF (by rfl) ⟨_, rfl, .inl rfl, iF (by rfl) ⟨_, rfl, rfl, _, rfl, iF (by rfl) ⟨_, rfl, rfl, _, rfl, iF (by rfl) ⟨_, rfl, rfl, _, rfl, iF (by rfl) ⟨_, rfl, rfl, _, rfl, iF (by rfl) (hn _ _ ⟨rfl, K1, by rw [show midOf (i : Int) (.copy c d) = [] from rfl, List.append_nil]; exact S1⟩)⟩⟩⟩⟩⟩⟩⟩⟩
        | label l => exact absurd rfl (hlab' l)
def spLed (C : Addr) : Sp := fun vs H Q _ => ∃ (p rt hl fl sp : Addr) (vs0 : List V) (rows : List MR) (bs : List Bool) (krs : List KR) (spf : Int → Option Nat) (B : Nat), vs = [.ref p] ∧ MkS C H p rt hl fl sp vs0 rows bs krs spf B ∧ krs.length ≤ 800000 ∧
  (∀ r ∈ krs, match r with
    | .jump a _ => ∃ q, spf a = some q
    | .unl a _ => ∃ q, spf a = some q
    | _ => True) ∧
  ∀ (L : Addr) (H' : Hp) (xs' : List V), Same H H' → H' L = some (.lst xs') → Paired (KRowV H') xs' (krs.map (ledR spf)) → Q (.ref L) H'
theorem scLed : FnScope ["self", "found", "row"] ["self"] (defScope (sMk 4)) := ⟨rfl, rfl, rfl, by decide +kernel, rfl, by decide +kernel, by decide +kernel⟩
theorem fn_led {f : Addr} {fd : FuncData} (F : Fun K "led" "Maker.led" (sMk 4) f fd) (TM : McT K mg C) : FnOk P w K mg base CX0 3 f fd ["self"] (spLed C) := by
  have sc := scLed
  refine F.ok sc (fun vs H Q E h => ?_) (fun cdv A outer s0 H vs Q E hr h => ?_)
  · obtain ⟨p, rt, hl, fl, sp, vs0, rows, bs, krs, spf, B, rfl, _⟩ := h
    rfl
  · obtain ⟨p, rt, hl, fl, sp, vs0, rows, bs, krs, spf, B, rfl, S, hkl, hsp, k⟩ := h
    have hu := hu_of hr
    obtain ⟨dx, hp⟩ := S.ins
    obtain ⟨xs, hf, hpr⟩ := S.found
    obtain ⟨kvs, hs, hsl, hsv⟩ := S.spots
    have hxl := hpr.length
    refine ⟨_,
(pss_cons (ps_set (i := 1) sc.nd rfl (Or.inl rfl) (pe_lst pa_nil))
(pss_cons (ps_for PassesOwn.never rfl (pi_list (pe_fld (pv 0) rfl)) (pg_name (i := 2) sc.nd rfl (Or.inl rfl))
(pss_one (ps_expr (pe_bm PySem.F.plainAttrs_list PySem.F.slot_list_append PySem.F.type_list_append mt_append (pv 1) (pa_cons (pe_ifExp (pt_inT hu (pe_ix ix_tup (pv 2) pe_int (fun _ _ => rfl)) (pas_cons (pas_cons pas_nil)) (by decide)) (pe_tup (pa_cons (pe_ix ix_tup (pv 2) pe_int (fun _ _ => rfl)) (pa_cons (pe_dget hu (pe_fld (pv 0) rfl) (pe_ix ix_tup (pv 2) pe_int (fun _ _ => rfl)) (fun _ _ => rfl)) (pa_cons (pe_ix ix_tup (pv 2) pe_int (fun _ _ => rfl)) pa_nil)))) (pv 2)) pa_nil)))))
(pss_one (ps_ret (pv 1)))))
    , ?_⟩
    refine ⟨Nat.zero_le _, fun L hL => ?_⟩
    have E1 := same_new (o := .lst []) hL
    have nfL : fl ≠ L := ne_of_none hf hL
    have hL1 := @upd_same H L (.lst [])
    generalize upd H L (.lst []) = H1 at E1 hL1 ⊢
    refine ⟨_, rfl, p, C, dx, _, _, rfl, E1 _ _ hp, TM.cl, TM.nF, mfs_found .., fl, rfl, ⟨_, SqL.of (E1 _ _ hf)⟩, ?_⟩
    have hL0 : ∀ b o, H b = some o → b ∉ [L] := fun b o e => by simp [ne_of_none e hL]
    refine for_list (K := K) (a := fl) (xs := xs) (fun j σ' H' => ∃ (x2 : Option V) (xs' : List V), σ' = [some (.ref p), some (.ref L), x2] ∧ H' L = some (.lst xs') ∧ Paired (KRowV H') xs' ((krs.take j).map (ledR spf)) ∧ Kp [L] H1 H') ?_ ?_ ?_ ?_
    · exact ⟨none, [], rfl, hL1, .nil, Kp.refl _ _⟩
    · rintro j σ' H2 _ ⟨_, _, _, _, _, K2⟩
      exact SqL.of (K2 _ _ (hL0 _ _ hf) (E1 _ _ hf))
    · rintro j x σ' H2 hx ⟨x2, xs', rfl, hL2, hpr2, K2⟩
      have st : ∀ b o, H b = some o → H2 b = some o := fun b o e => K2 b o (hL0 b o e) (E1 _ _ e)
      obtain ⟨r, hr2, a, rfl, ha⟩ := paired_get hpr hx
      have ha2 := st _ _ ha
      have hl2 := hpr2.length
      rw [List.length_map, List.length_take] at hl2
      have hsp2 := hsp r (List.mem_of_getElem? hr2)
      have nL : L ≠ L → False := fun z => z rfl
      have keepsL : ∀ {H3 : Hp} {y : V}, Same H2 H3 → KRowV H3 y (ledR spf r) → H3 L = some (.lst xs') → ∃ (x2 : Option V) (xs2 : List V), [some (.ref p), some (.ref L), some (V.ref a)] = [some (.ref p), some (.ref L), x2] ∧ (upd H3 L (.lst (xs' ++ [y]))) L = some (.lst xs2) ∧ Paired (KRowV (upd H3 L (.lst (xs' ++ [y])))) xs2 ((krs.take (j + 1)).map (ledR spf)) ∧ Kp [L] H1 (upd H3 L (.lst (xs' ++ [y]))) := fun {H3 y} S3 hy h3 => by
        have tups : ∀ {v : V} {r' : KR}, KRowV H3 v r' → KRowV (upd H3 L (.lst (xs' ++ [y]))) v r' := fun {v r'} h => by
          obtain ⟨b, rfl, hb⟩ := h
          exact ⟨b, rfl, by rw [upd_ne (ne_of hb h3 (by intro z; cases z))]; exact hb⟩
        refine ⟨_, _, rfl, upd_same, ?_, K2.trans ((Kp.same S3).trans (Kp.upd (by simp)))⟩
        rw [List.take_succ, hr2, List.map_append]
        exact (Paired.mapP hpr2 fun v r' h => tups (krow_same S3 h)).snoc (tups hy)
      dsimp only [gName]
      by_cases hw : inS (.str r.word) ["jump", "unless"] = true
      · refine ⟨_, rfl, .inl ⟨rfl, _, SqL.of hL2⟩, _, rfl, _, _, _, _, rfl, rfl, SqT.of ha2, (kat0 r), .inl rfl, iT hw ?_⟩
        have go : ∀ (wd : Str) (t0 k0 : Int) (q : Nat), r.tup = [.str wd, .int t0, .int k0] → spf t0 = some q → ledR spf r = r → True := fun _ _ _ _ _ _ _ => trivial
        cases r with
        | jump a0 k0 =>
          obtain ⟨q, hq⟩ := hsp2
          refine ⟨_, rfl, _, _, _, _, rfl, rfl, SqT.of ha2, rfl, _, rfl, p, C, dx, _, _, rfl, st _ _ hp, TM.cl, TM.nS, mfs_spots .., _, rfl, _, _, _, _, rfl, rfl, SqT.of ha2, rfl, sp, _, rfl, .inl ⟨kvs, .inl a0, .inl (st _ _ hs), rfl, by rw [hsv, hq]; rfl⟩, _, rfl, _, _, _, _, rfl, rfl, SqT.of ha2, rfl, (by show 3 ≤ sizeLine; decide), fun t ht => ?_⟩
          have Et := same_new (o := .tup [.str "jump", .int (q : Int), .int k0]) ht
          refine ⟨L, _, _, rfl, rfl, Et _ _ hL2, szl (by omega), ?_⟩
          refine keepsL Et ⟨t, rfl, ?_⟩ (Et _ _ hL2)
          rw [upd_same]
          show some (HO.tup [V.str "jump", V.int (q : Int), V.int k0]) = some (HO.tup [V.str "jump", V.int (((spf a0).getD 0 : Nat) : Int), V.int k0])
          rw [hq]
          rfl
        | unl a0 k0 =>
          obtain ⟨q, hq⟩ := hsp2
          refine ⟨_, rfl, _, _, _, _, rfl, rfl, SqT.of ha2, rfl, _, rfl, p, C, dx, _, _, rfl, st _ _ hp, TM.cl, TM.nS, mfs_spots .., _, rfl, _, _, _, _, rfl, rfl, SqT.of ha2, rfl, sp, _, rfl, .inl ⟨kvs, .inl a0, .inl (st _ _ hs), rfl, by rw [hsv, hq]; rfl⟩, _, rfl, _, _, _, _, rfl, rfl, SqT.of ha2, rfl, (by show 3 ≤ sizeLine; decide), fun t ht => ?_⟩
          have Et := same_new (o := .tup [.str "unless", .int (q : Int), .int k0]) ht
          refine ⟨L, _, _, rfl, rfl, Et _ _ hL2, szl (by omega), ?_⟩
          refine keepsL Et ⟨t, rfl, ?_⟩ (Et _ _ hL2)
          rw [upd_same]
          show some (HO.tup [V.str "unless", V.int (q : Int), V.int k0]) = some (HO.tup [V.str "unless", V.int (((spf a0).getD 0 : Nat) : Int), V.int k0])
          rw [hq]
          rfl
        | op o k0 => cases o <;> cases hw
        | _ => cases hw
      · have hw : inS (.str r.word) ["jump", "unless"] = false := by simpa using hw
        refine ⟨_, rfl, .inl ⟨rfl, _, SqL.of hL2⟩, _, rfl, _, _, _, _, rfl, rfl, SqT.of ha2, (kat0 r), .inl rfl, iF hw ⟨_, rfl, L, _, _, rfl, rfl, hL2, szl (by omega), ?_⟩⟩
        refine keepsL (fun _ _ e => e) ⟨a, rfl, ?_⟩ hL2
        have : ledR spf r = r := by
          cases r with
          | jump _ _ => cases hw
          | unl _ _ => cases hw
          | _ => rfl
        rw [this]
        exact ha2
    · rintro σ' H2 ⟨x2, xs', rfl, hL2, hpr2, K2⟩
      rw [hxl, List.take_length] at hpr2
      exact ⟨_, rfl, k L H2 xs' (fun b o e => K2 b o (hL0 b o e) (E1 _ _ e)) hL2 hpr2⟩
def spInit (C : Addr) : Sp := fun vs H Q _ => ∃ (p rt nd dx : Addr) (vs0 : List V) (rows : List MR) (kN : List (Key × V)), vs = [.ref p, .ref rt, .ref nd] ∧ H p = some (.ins C dx []) ∧ RowsOk H rt vs0 rows ∧ H nd = some (.dK kN) ∧ DSet kN ∧
  ∀ (hl fl sp : Addr) (bs : List Bool) (H' : Hp) (live : Nat → Int → Prop), Kp [p] H H' → MkS C H' p rt hl fl sp vs0 rows bs (codeTo rows bs rows.length) (spotTo rows bs rows.length) rows.length →
    (∀ i, i < rows.length → ∀ c, Fi rows live i c → live i c) → (∀ i, bs[i]? = some true → LeftOk rows live (has kN) i) → Q .non H'
theorem scInit : FnScope ["self", "rows", "named", "number", "row"] ["self", "rows", "named"] (defScope (sMk 0)) := ⟨rfl, rfl, rfl, by decide +kernel, rfl, by decide +kernel, by decide +kernel⟩
theorem fn_init {f : Addr} {fd : FuncData} (F : Fun K "__init__" "Maker.__init__" (sMk 0) f fd) (T : Blt K mg aO aL) (TM : McT K mg C)
    (D_handed_on : Dfn P w K mg base "handed_on" 3 ["rows", "named"] spHanded)
    (D_make : Mth P w K mg base C "make" 3 ["self", "number", "row"] (spMake C)) : FnOk P w K mg base CX0 4 f fd ["self", "rows", "named"] (spInit C) := by
  have sc := scInit
  refine F.ok sc (fun vs H Q E h => ?_) (fun cdv A outer s0 H vs Q E hr h => ?_)
  · obtain ⟨p, rt, nd, dx, vs0, rows, kN, rfl, _⟩ := h
    rfl
  · obtain ⟨p, rt, nd, dx, vs0, rows, kN, rfl, hp, hR, hnd, hkN, k⟩ := h
    have hvs : vs0.length = rows.length := hR.ent.length
    refine ⟨_,
(pss_cons (ps_fld (pv 0) (pv 1) rfl)
(pss_cons (ps_fld (pv 0) (pe_callD D_handed_on (hr.mono (by omega)) (by rfl) (pa_cons (pv 1) (pa_cons (pv 2) pa_nil))) rfl)
(pss_cons (ps_fld (pv 0) (pe_lst pa_nil) rfl)
(pss_cons (ps_fld (pv 0) pe_dnewK rfl)
(pss_one (ps_for PassesOwn.never rfl (pi_enumT (by rfl) T.enumerate (pa_cons (pv 1) pa_nil)) (pg_tup rfl (pgs_cons (pg_name (i := 3) sc.nd rfl (Or.inl rfl)) (pgs_cons (pg_name (i := 4) sc.nd rfl (Or.inl rfl)) pgs_nil)))
(pss_one (ps_expr (pe_methD (pv 0) TM.cl D_make (hr.mono (by decide)) (pa_cons (pv 3) (pa_cons (pv 4) pa_nil)))))))))))
    , ?_⟩
    refine ⟨_, rfl, _, rfl, p, C, dx, [], rfl, hp, TM.cl, TM.nR, (by show 0 < 1000; decide), ?_⟩
    have K1 : Kp [p] H (upd H p (.ins C dx (putF "rows" (.ref rt) []))) := Kp.upd (by simp)
    have tp : ∀ {b : Addr} {zs : List V}, H b = some (.tup zs) → (upd H p (.ins C dx (putF "rows" (.ref rt) []))) b = some (.tup zs) := fun {b zs} e => by
      rw [upd_ne (ne_of e hp (by intro z; cases z))]
      exact e
    have hp1 := @upd_same H p (.ins C dx (putF "rows" (.ref rt) []))
    have hnd1 : (upd H p (.ins C dx (putF "rows" (.ref rt) []))) nd = some (.dK kN) := by
      rw [upd_ne (ne_of hnd hp (by intro z; cases z))]
      exact hnd
    generalize upd H p (.ins C dx (putF "rows" (.ref rt) [])) = H1 at K1 tp hp1 hnd1 ⊢
    refine ⟨_, rfl, _, rfl, rt, nd, vs0, rows, kN, rfl, hR.same fun b zs e => tp e, hnd1, hkN, fun hl H2 bs S2 hhl1 ⟨hl2, hbl, live, hlive, hlo⟩ => ?_⟩
    have hp2 := S2 _ _ hp1
    refine ⟨_, rfl, p, C, dx, _, rfl, hp2, TM.cl, TM.nL, (by show 1 < 1000; decide), ?_⟩
    have nhp : hl ≠ p := ne_of hl2 hp2 (by intro z; cases z)
    have hl3 : (upd H2 p (.ins C dx (putF "left" (.ref hl) (putF "rows" (.ref rt) [])))) hl = some (.lst (bs.map V.bl)) := (upd_ne nhp).trans hl2
    have hp3 := @upd_same H2 p (.ins C dx (putF "left" (.ref hl) (putF "rows" (.ref rt) [])))
    have K3 : Kp [p] H (upd H2 p (.ins C dx (putF "left" (.ref hl) (putF "rows" (.ref rt) [])))) := K1.trans ((Kp.same S2).trans (Kp.upd (by simp)))
    generalize upd H2 p (.ins C dx (putF "left" (.ref hl) (putF "rows" (.ref rt) []))) = H3 at hl3 hp3 K3 ⊢
    refine ⟨Nat.zero_le _, fun fl hfl => ?_⟩
    have E4 := same_new (o := .lst []) hfl
    have hfl4 := @upd_same H3 fl (.lst [])
    generalize upd H3 fl (.lst []) = H4 at E4 hfl4 ⊢
    have hp4 := E4 _ _ hp3
    refine ⟨_, rfl, p, C, dx, _, rfl, hp4, TM.cl, TM.nF, (by show 2 < 1000; decide), ?_⟩
    have nlf : hl ≠ fl := ne_of_none hl3 hfl
    have nfp : fl ≠ p := ne_of hfl4 hp4 (by intro z; cases z)
    have hl5 : (upd H4 p (.ins C dx (putF "found" (.ref fl) (putF "left" (.ref hl) (putF "rows" (.ref rt) []))))) hl = some (.lst (bs.map V.bl)) := (upd_ne nhp).trans (E4 _ _ hl3)
    have hfl5 : (upd H4 p (.ins C dx (putF "found" (.ref fl) (putF "left" (.ref hl) (putF "rows" (.ref rt) []))))) fl = some (.lst []) := (upd_ne nfp).trans hfl4
    have hp5 := @upd_same H4 p (.ins C dx (putF "found" (.ref fl) (putF "left" (.ref hl) (putF "rows" (.ref rt) []))))
    have K5 : Kp [p] H (upd H4 p (.ins C dx (putF "found" (.ref fl) (putF "left" (.ref hl) (putF "rows" (.ref rt) []))))) := K3.trans ((Kp.same E4).trans (Kp.upd (by simp)))
    generalize upd H4 p (.ins C dx (putF "found" (.ref fl) (putF "left" (.ref hl) (putF "rows" (.ref rt) [])))) = H5 at hl5 hfl5 hp5 K5 ⊢
    refine fun sp hsp => ?_
    have E6 := same_new (o := .dK []) hsp
    have hsp6 := @upd_same H5 sp (.dK [])
    generalize upd H5 sp (.dK []) = H6 at E6 hsp6 ⊢
    have hp6 := E6 _ _ hp5
    refine ⟨_, rfl, p, C, dx, _, rfl, hp6, TM.cl, TM.nS, (by show 3 < 1000; decide), ?_⟩
    have nsp : sp ≠ p := ne_of hsp6 hp6 (by intro z; cases z)
    rw [mfs_mk]
    have K7 : Kp [p] H (upd H6 p (.ins C dx (mfs rt hl fl sp))) := K5.trans ((Kp.same E6).trans (Kp.upd (by simp)))
    have hp0 : ∀ {b : Addr} {zs : List V}, H b = some (.tup zs) → b ∉ [p] := fun {b zs} e => by
      simp only [List.mem_singleton]
      exact ne_of e hp (by intro z; cases z)
    have S7 : MkS C (upd H6 p (.ins C dx (mfs rt hl fl sp))) p rt hl fl sp vs0 rows bs (codeTo rows bs 0) (spotTo rows bs 0) 0 := by
      refine ⟨⟨dx, upd_same⟩, hR.same fun b zs e => K7 _ _ (hp0 e) e, (upd_ne nhp).trans (E6 _ _ hl5), hbl, ⟨[], (upd_ne nfp).trans (E6 _ _ hfl5), .nil⟩, ⟨[], (upd_ne nsp).trans hsp6, Nat.le_refl _, fun k2 => rfl⟩, nlf⟩
    generalize upd H6 p (.ins C dx (mfs rt hl fl sp)) = H7 at K7 S7 ⊢
    have nofl : ∀ b o, H b = some o → b ≠ p → b ∉ [fl, sp] := fun b o e nb => by
      have h1 : b ≠ fl := ne_of_none (K3 _ _ (by simp [nb]) e) hfl
      have h2 : b ≠ sp := ne_of_none (K5 _ _ (by simp [nb]) e) hsp
      simp [h1, h2]
    refine ⟨_, rfl, rt, vs0, rfl, SqT.of S7.ok.tup, ?_⟩
    refine for_it (walk_numT (xs := vs0)) (fun j σ' H' => ∃ (x3 x4 : Option V), σ' = [some (.ref p), some (.ref rt), some (.ref nd), x3, x4] ∧ MkS C H' p rt hl fl sp vs0 rows bs (codeTo rows bs j) (spotTo rows bs j) j ∧ Kp [fl, sp] H7 H') ?_ (fun i σ' H' _ q => ?_) ?_ ?_
    · exact ⟨none, none, rfl, S7, Kp.refl _ _⟩
    · obtain ⟨_, _, _, S, _⟩ := q
      exact SqT.of S.ok.tup
    · rintro j x σ' H8 H9 hj ⟨x3, x4, rfl, S8, K8⟩ ⟨t, y1, y2, rfl, ht, rfl, e1, e2⟩
      cases e1
      have hj' : j < rows.length := by omega
      have em : rows[j]? = some rows[j] := List.getElem?_eq_getElem hj'
      obtain ⟨v, hv, a, b, pp, rfl, ha, hb⟩ := paired_at S8.ok.ent em
      dsimp only at e2
      rw [hv] at e2
      cases e2
      have Et := same_new (o := .tup [.int (j : Nat), .ref a]) ht
      have S9 := S8.kp Et
      obtain ⟨dx9, hp9⟩ := S9.ins
      refine ⟨_, _, rfl, SqT.of upd_same, rfl, _, _, rfl, _, _, rfl, rfl, ?_⟩
      have hb9 : (rows[j]).aux (upd H8 t (.tup [.int (j : Nat), .ref a])) b := by
        generalize rows[j] = m at hb ⊢
        cases m <;> first | trivial | exact Et _ _ hb
      refine ⟨_, rfl, p, dx9, _, rfl, hp9, mfs_make .., _, rfl, _, rfl, p, a, rt, hl, fl, sp, vs0, rows, bs, j, rows[j], rfl, ⟨a, b, pp, rfl, Et _ _ ha, hb9⟩, S9, em, fun H10 K10 S10 => ?_⟩
      exact ⟨_, _, rfl, S10, K8.trans ((Kp.same Et).trans K10)⟩
    · rintro σ' H8 ⟨x3, x4, rfl, S8, K8⟩
      rw [hvs] at S8
      refine k hl fl sp bs H8 live (fun b o nb e => K8 _ _ (nofl b o e (by simpa using nb)) (K7 _ _ nb e)) S8 hlive hlo
end
end K48
set_option maxHeartbeats 1000000
set_option linter.all false
/-! machine_of -/
namespace K48
open PySem L2
theorem mem_code {rows : List MR} {bs : List Bool} {r : KR} : ∀ {j : Nat}, r ∈ codeTo rows bs j → ∃ i m, i < j ∧ rows[i]? = some m ∧ r ∈ emit bs i m
  | j + 1, h => by
    have h : r ∈ codeTo rows bs j ++ (match rows[j]? with | some m => emit bs j m | none => []) := h
    rcases List.mem_append.mp h with h | h
    · obtain ⟨i, m, h1, h2⟩ := mem_code h
      exact ⟨i, m, by omega, h2⟩
    · cases e : rows[j]? with
      | none =>
        rw [e] at h
        cases h
      | some m =>
        rw [e] at h
        exact ⟨j, m, by omega, e, h⟩
theorem mem_emit {bs : List Bool} {i : Nat} {m : MR} {r : KR} (h : r ∈ emit bs i m) : (∃ c, c ∈ loadsOf bs i m ∧ r = .load c (i : Int)) ∨ r ∈ midOf (i : Int) m ∨ r ∈ storeOf bs i m := by
  unfold emit at h
  split at h
  · cases h
  · rcases List.mem_append.mp h with h | h
    · rcases List.mem_append.mp h with h | h
      · obtain ⟨c, hc, rfl⟩ := List.mem_map.mp h
        exact .inl ⟨c, hc, rfl⟩
      · exact .inr (.inl h)
    · exact .inr (.inr h)
theorem mem_store {bs : List Bool} {i : Nat} {m : MR} {r : KR} (h : r ∈ storeOf bs i m) : ∃ c, m.lays = some c ∧ r = .store c (i : Int) := by
  unfold storeOf at h
  split at h
  · rename_i c e
    split at h
    · cases h
    · exact ⟨c, e, List.mem_singleton.mp h⟩
  · cases h
theorem spot_some {rows : List MR} {bs : List Bool} {k : Int} {p : Nat} (h : rows[p]? = some (.label k)) : ∀ {j : Nat}, p < j → ∃ q, spotTo rows bs j k = some q
  | j + 1, hp => by
    show ∃ q, (if rows[j]? = some (.label k) then some (codeTo rows bs j).length else spotTo rows bs j k) = some q
    by_cases e : rows[j]? = some (.label k)
    · exact ⟨_, if_pos e⟩
    · have : p < j := by
        rcases Nat.lt_or_ge p j with h1 | h1
        · exact h1
        · have : p = j := by omega
          subst this
          exact absurd h e
      obtain ⟨q, hq⟩ := spot_some h this
      exact ⟨q, by rw [if_neg e]; exact hq⟩
theorem jumps_led {rows : List MR} {bs : List Bool} (hu : LabUniq rows) (ht : TargetsOk rows) : ∀ r ∈ codeTo rows bs rows.length, match r with
    | .jump a _ => ∃ q, spotTo rows bs rows.length a = some q
    | .unl a _ => ∃ q, spotTo rows bs rows.length a = some q
    | _ => True := fun r hr => by
  obtain ⟨i, m, hi, em, h⟩ := mem_code hr
  have hm := ht m (List.mem_of_getElem? em)
  have key : ∀ k p, spotOf rows k = some p → ∃ q, spotTo rows bs rows.length k = some q := fun k p e => by
    have e2 := (spotOf_iff hu k p).mp e
    exact spot_some e2 (List.getElem?_eq_some_iff.mp e2).1
  rcases mem_emit h with ⟨c, _, rfl⟩ | h | h
  · trivial
  · cases m <;> simp only [midOf, List.mem_singleton, List.mem_nil_iff] at h <;> first
      | (subst h; first | trivial | (obtain ⟨p, e⟩ := hm; exact key _ p e))
      | exact h.elim
  · obtain ⟨c, _, rfl⟩ := mem_store h
    trivial
section
variable {P : Program} {w : World} {K : PySem.W.Frag} {mg : Str → Option Value} {base : Heap} {aO aL C : Addr}
/-- the cells that have a name, or hold a part -/
def Seen (M : Md) (c : Int) : Prop := c ∈ M.named ∨ (0 ≤ c ∧ c < (M.kinds.length : Int))
structure Md.Fit (M : Md) : Prop where
  len : M.rows.length ≤ 700
  uniq : LabUniq M.rows
  tgt : TargetsOk M.rows
  nx : ∀ i, i < M.rows.length → ∀ s ∈ nexts M.rows i, s < M.rows.length
  rd : ∀ m ∈ M.rows, m.reads.length ≤ 3
  kl : M.kinds.length ≤ 3
  nl : M.named.length ≤ 3
def spMachineOf : Sp := fun vs H Q _ => ∃ (md : Addr) (M : Md), vs = [.ref md] ∧ MadeAt H md M ∧ M.Fit ∧
  ∀ (ra : Addr) (H' : Hp) (kvs : List V) (bs : List Bool) (live : Nat → Int → Prop), Same H H' → H' ra = some (.lst kvs) → Paired (KRowV H') kvs (machineRows M.rows bs) →
    (∀ i, i < M.rows.length → ∀ c, Fi M.rows live i c → live i c) → (∀ i, bs[i]? = some true → LeftOk M.rows live (Seen M) i) → Q (.ref ra) H'
theorem scMachineOf : FnScope ["made", "named", "cell", "name", "kinds", "kind", "is_out", "rows", "names", "word", "sort", "first", "last"] ["made"] (defScope (topS 9)) := ⟨rfl, rfl, rfl, by decide +kernel, rfl, by decide +kernel, by decide +kernel⟩
theorem fn_machine_of {f : Addr} {fd : FuncData} (F : Fun K "machine_of" "machine_of" (topS 9) f fd) (T : Blt K mg aO aL) (TM : McT K mg C)
    (D_init : MkD P w K mg base C 4 ["self", "rows", "named"] (spInit C))
    (D_led : Mth P w K mg base C "led" 3 ["self"] (spLed C)) : FnOk P w K mg base CX0 6 f fd ["made"] spMachineOf := by
  have sc := scMachineOf
  refine F.ok sc (fun vs H Q E h => ?_) (fun cdv A outer s0 H vs Q E hr h => ?_)
  · obtain ⟨md, M, rfl, _⟩ := h
    rfl
  · obtain ⟨md, M, rfl, ⟨kt, rt, nt, vs0, ns, hM⟩, hfit, k⟩ := h
    have hu := hu_of hr
    have hns : ns.length = M.named.length := hM.names.length
    have hnl := hfit.nl
    have hkl := hfit.kl
    have hR : RowsOk H rt vs0 M.rows := ⟨hM.rt, hM.rows, hfit.len, hfit.uniq, hfit.tgt, hfit.nx, hfit.rd⟩
    refine ⟨_,
(pss_cons (ps_asg (pv 0) (pg_tup rfl (pgs_cons (pg_name (i := 3) sc.nd rfl (Or.inl rfl)) (pgs_cons (pg_name (i := 4) sc.nd rfl (Or.inl rfl)) (pgs_cons (pg_name (i := 5) sc.nd rfl (Or.inl rfl)) (pgs_cons (pg_name (i := 6) sc.nd rfl (Or.inl rfl)) (pgs_cons (pg_name (i := 7) sc.nd rfl (Or.inl rfl)) (pgs_cons (pg_name (i := 8) sc.nd rfl (Or.inl rfl)) pgs_nil))))))))
(pss_cons (ps_setDc (i := 1) (own := [("word", 9), ("sort", 10), ("cell", 2), ("first", 11), ("last", 12)]) rfl sc.nd rfl rfl (swd_true rfl rfl rfl (by decide +kernel)) (pi_tup (pv 8)) (blkOk_by (own := [("word", 9), ("sort", 10), ("cell", 2), ("first", 11), ("last", 12)]) (N := ["made", "named", "cell", "name", "kinds", "kind", "is_out", "rows", "names", "word", "sort", "first", "last"]) (sc := defScope (topS 9)) (by decide +kernel)) (fun _ _ _ _ _ => (pg_tupK (K := K) (n := 5) rfl rfl (pgs_cons (pg_name (i := 9) sc.nd rfl (Or.inl rfl)) (pgs_cons (pg_name (i := 10) sc.nd rfl (Or.inl rfl)) (pgs_cons (pg_name (i := 2) sc.nd rfl (Or.inl rfl)) (pgs_cons (pg_name (i := 11) sc.nd rfl (Or.inl rfl)) (pgs_cons (pg_name (i := 12) sc.nd rfl (Or.inl rfl)) pgs_nil))))))) (fun _ _ _ _ _ => pts_nil) (fun _ _ _ _ _ => (pv 2)) (fun _ _ _ _ _ => pe_bl))
(pss_cons (ps_for PassesOwn.never rfl (pi_range1 (by rfl) T.range (pa_cons (pe_callB (call_len) (by rfl) T.len PySem.boot_len (pa_cons (pv 4) pa_nil)) pa_nil)) (pg_name (i := 2) sc.nd rfl (Or.inl rfl))
(pss_one (ps_asg pe_bl (pg_sub (pv 1) (pv 2) (set_dict hu)))))
(pss_one (ps_ret (pe_methD0 (pe_makeD D_init (hr.mono (by decide)) (by rfl) TM.mgC (pa_cons (pv 7) (pa_cons (pv 1) pa_nil))) TM.cl D_led (hr.mono (by decide))))))))
    , ?_⟩
    refine ⟨_, rfl, _, _, rfl, SqT.of hM.top, rfl, _, _, rfl, _, _, rfl, _, _, rfl, _, _, rfl, _, _, rfl, _, _, rfl, rfl, ?_⟩
    dsimp only
    show tSeq _ _ _ [some (.ref md), none, none, some (.str "da"), some (.ref kt), some (.str M.kind), some (.bl true), some (.ref rt), some (.ref nt), none, none, none, none] H
    refine ⟨_, rfl, nt, rfl, ⟨_, SqT.of hM.nt⟩, fun nd hnd => ?_⟩
    refine dc_it (walk_tup (K := K) (a := nt) (xs := ns)) (fun j H' => ∃ kN, H' nd = some (.dK kN) ∧ DSet kN ∧ kN.length ≤ j ∧ (∀ c, has kN c ↔ ∃ t : Nat, t < j ∧ M.named[t]? = some c) ∧ Same H H') ?_ ?_ ?_ ?_
    · exact ⟨[], upd_same, dset_nil, Nat.le_refl _, fun c => ⟨fun h => absurd h (has_nil c), fun ⟨t, h, _⟩ => absurd h (by omega)⟩, same_new hnd⟩
    · rintro j H' _ ⟨_, _, _, _, _, S⟩
      exact SqT.of (S _ _ hM.nt)
    · rintro j x H2x H2 hj ⟨kN, hkN, hset, hl, hN, S⟩ ⟨rfl, hx⟩
      obtain ⟨c, hc, a, z, rfl, ha⟩ := paired_get hM.names hx
      obtain ⟨p1, p2⟩ := dset_put hset c
      refine ⟨_, _, rfl, SqT.of (S _ _ ha), rfl, _, _, rfl, _, _, rfl, _, _, rfl, _, _, rfl, _, _, rfl, rfl, rfl, ?_⟩
      refine ⟨_, rfl, kN, .inl c, rfl, hkN, szl (by omega), _, upd_same, p1, Nat.le_trans (length_putK _ _ _) (by omega), fun d => ?_, fun b o e => ?_⟩
      · rw [p2, hN]
        constructor
        · rintro (⟨t, h1, h2⟩ | rfl)
          · exact ⟨t, by omega, h2⟩
          · exact ⟨j, by omega, hc⟩
        · rintro ⟨t, h1, h2⟩
          by_cases e : t < j
          · exact .inl ⟨t, e, h2⟩
          · have e2 : t = j := by omega
            subst e2
            rw [hc] at h2
            cases h2
            exact .inr rfl
      · rw [upd_ne (ne_of_none e hnd)]
        exact S _ _ e
    rintro H2 ⟨kN, hkN, hset, hl, hN, S2⟩
    refine ⟨_, rfl, _, M.kinds.length, rfl, .inr ⟨_, SqT.of (S2 _ _ hM.kinds), (List.length_map _).symm⟩, _, rfl, by omega, by omega, ?_⟩
    refine for_range (lo := 0) (fun j σ' H' => ∃ (x2 : Option V) (kN : List (Key × V)), σ' = [some (.ref md), some (.ref nd), x2, some (.str "da"), some (.ref kt), some (.str M.kind), some (.bl true), some (.ref rt), some (.ref nt), none, none, none, none] ∧
      H' nd = some (.dK kN) ∧ DSet kN ∧ kN.length ≤ 3 + j ∧ (∀ c, has kN c ↔ c ∈ M.named ∨ (0 ≤ c ∧ c < (j : Int))) ∧ Same H H') ?_ ?_ ?_
    · refine ⟨none, kN, rfl, hkN, hset, by omega, fun c => ?_, S2⟩
      rw [hN]
      constructor
      · rintro ⟨t, _, h⟩
        exact .inl (List.mem_of_getElem? h)
      · rintro (h | h)
        · obtain ⟨t, ht⟩ := List.getElem?_of_mem h
          refine ⟨t, ?_, ht⟩
          rw [hns]
          exact (List.getElem?_eq_some_iff.mp ht).1
        · omega
    · rintro j σ' H3 hj ⟨x2, kN3, rfl, hk3, hs3, hl3, hN3, S3⟩
      obtain ⟨p1, p2⟩ := dset_put hs3 (j : Int)
      dsimp only [gName]
      refine ⟨_, rfl, _, rfl, nd, _, rfl, .inl ⟨kN3, .inl (j : Int), hk3, by rw [Int.zero_add]; rfl, szl (by omega), rfl⟩, ?_⟩
      refine ⟨_, _, rfl, upd_same, p1, Nat.le_trans (length_putK _ _ _) (by omega), fun d => ?_, fun b o e => ?_⟩
      · rw [p2, hN3]
        constructor
        · rintro ((h | h) | rfl)
          · exact .inl h
          · exact .inr (by omega)
          · exact .inr (by omega)
        · rintro (h | h)
          · exact .inl (.inl h)
          · by_cases e : d < (j : Int)
            · exact .inl (.inr ⟨h.1, e⟩)
            · exact .inr (by omega)
      · rw [upd_ne (ne_of_none e hnd)]
        exact S3 _ _ e
    · rintro σ' H3 ⟨x2, kN3, rfl, hk3, hs3, hl3, hN3, S3⟩
      refine ⟨_, rfl, _, rfl, fun p dx hp hdx hne => ?_⟩
      have S4 : Same H3 (upd (upd H3 dx (.own p)) p (.ins C dx [])) := fun b o e => by
        rw [upd_ne (ne_of_none e hp), upd_ne (ne_of_none e hdx)]
        exact e
      have hp0 : H p = none := S3.free hp
      refine ⟨p, rt, nd, dx, vs0, M.rows, kN3, rfl, upd_same, hR.same fun b zs e => S4 _ _ (S3 _ _ e), S4 _ _ hk3, hs3, fun hl fl sp bs H5 live K5 S5 hlive hlo => ⟨rfl, ?_⟩⟩
      obtain ⟨dx5, hp5⟩ := S5.ins
      have hlen := codeTo_len (bs := bs) hfit.rd M.rows.length
      have hll := hfit.len
      refine ⟨p, dx5, _, rfl, hp5, mfs_led .., p, rt, hl, fl, sp, vs0, M.rows, bs, _, _, _, rfl, S5, by omega, jumps_led hfit.uniq hfit.tgt, fun L H6 xs' S6 hL hpr => ?_⟩
      refine k L H6 xs' bs live (fun b o e => S6 _ _ (K5 _ _ (by simp [ne_of_none e hp0]) (S4 _ _ (S3 _ _ e)))) hL hpr hlive fun i hi => ?_
      obtain ⟨m, m2, c, rest, q1, q2, q3, q4⟩ := hlo i hi
      refine ⟨m, m2, c, rest, q1, q2, fun z => q3 ((hN3 c).mpr ?_), q4⟩
      have : ((M.kinds.length : Nat) : Int).toNat = M.kinds.length := by omega
      rw [this]
      exact z
end
end K48
set_option maxHeartbeats 1000000
set_option linter.all false
/-! plain: what well-made rows have (no program in sight) -/
namespace K48
open PySem L2
/-! labels -/
def labs (c : List MR) : List Int := c.filterMap fun m => match m with
  | .label k => some k
  | _ => none
theorem labs_app (a b : List MR) : labs (a ++ b) = labs a ++ labs b := List.filterMap_append ..
theorem labs_none {m : MR} (h : ∀ k, m ≠ .label k) : labs [m] = [] := by
  cases m with
  | label k => exact absurd rfl (h k)
  | _ => rfl
theorem strt_nolab {L : List Int} {m : MR} (h : Strt L m) : ∀ k, m ≠ .label k := fun k e => by
  subst e
  exact h.2
theorem nodup_one {α : Type} (x : α) : [x].Nodup := by simp
theorem nodup_app {α : Type} {a b : List α} (h1 : a.Nodup) (h2 : b.Nodup) (h : ∀ x ∈ a, x ∉ b) : (a ++ b).Nodup :=
  List.nodup_append.mpr ⟨h1, h2, fun x hx y hy e => h x hx (e ▸ hy)⟩
theorem Blk.le {L : List Int} {n : Int} {c : List MR} {L1 : List Int} {n1 : Int} (h : Blk L n c L1 n1) : n ≤ n1 := by
  induction h with
  | nil => exact Int.le_refl _
  | beg _ ih => exact ih
  | str _ _ ih => exact ih
  | choice _ _ _ _ ih1 ih2 ih3 => omega
  | round _ _ _ _ ih1 ih2 => omega
theorem Blk.labs {L : List Int} {n : Int} {c : List MR} {L1 : List Int} {n1 : Int} (h : Blk L n c L1 n1) : (labs c).Nodup ∧ ∀ k ∈ labs c, n ≤ k ∧ k < n1 := by
  induction h with
  | nil => exact ⟨List.nodup_nil, fun k hk => by cases hk⟩
  | beg _ ih =>
    rw [labs_app, labs_none (fun k e => by cases e), List.append_nil]
    exact ih
  | str _ hs ih =>
    rw [labs_app, labs_none (strt_nolab hs), List.append_nil]
    exact ih
  | @choice L n c L1 n1 x c1 L2 n2 c2 L3 n3 b1 hx b2 b3 ih1 ih2 ih3 =>
    have l1 := b1.le
    have l2 := b2.le
    have l3 := b3.le
    have e : K48.labs (c ++ ([.unl x n1] ++ c1 ++ [.go (n1 + 1), .label n1] ++ c2 ++ [.label (n1 + 1)])) = K48.labs c ++ (K48.labs c1 ++ [n1] ++ K48.labs c2 ++ [n1 + 1]) := by
      simp only [labs_app]
      rfl
    rw [e]
    have r1 := ih1.2
    have r2 := ih2.2
    have r3 := ih3.2
    refine ⟨?_, fun k hk => ?_⟩
    · refine nodup_app ih1.1 (nodup_app (nodup_app (nodup_app ih2.1 (nodup_one _) ?_) ih3.1 ?_) (nodup_one _) ?_) ?_
      · intro z h1 h2
        have := r2 z h1
        rw [List.mem_singleton] at h2
        omega
      · intro z h1 h2
        have q3 := r3 z h2
        rcases List.mem_append.mp h1 with h | h
        · have := r2 z h
          omega
        · rw [List.mem_singleton] at h
          omega
      · intro z h1 h2
        rw [List.mem_singleton] at h2
        rcases List.mem_append.mp h1 with h | h
        · rcases List.mem_append.mp h with h | h
          · have := r2 z h
            omega
          · rw [List.mem_singleton] at h
            omega
        · have := r3 z h
          omega
      · intro z h1 h2
        have q1 := r1 z h1
        simp only [List.mem_append, List.mem_singleton] at h2
        rcases h2 with ((h | h) | h) | h
        · have := r2 z h
          omega
        · omega
        · have := r3 z h
          omega
        · omega
    · simp only [List.mem_append, List.mem_singleton] at hk
      rcases hk with h | ((h | h) | h) | h
      · have := r1 k h
        omega
      · have := r2 k h
        omega
      · omega
      · have := r3 k h
        omega
      · omega
  | @round L n c L1 n1 x k0 c1 L2 n2 b1 h0 h3 b2 ih1 ih2 =>
    have l1 := b1.le
    have l2 := b2.le
    have e : K48.labs (c ++ ([.put x k0, .put (x + 1) 1, .label n1, .beg, .unl x (n1 + 1)] ++ c1 ++ [.op .take x x (x + 1), .go n1, .label (n1 + 1)])) = K48.labs c ++ ([n1] ++ K48.labs c1 ++ [n1 + 1]) := by
      simp only [labs_app]
      rfl
    rw [e]
    have r1 := ih1.2
    have r2 := ih2.2
    refine ⟨?_, fun k hk => ?_⟩
    · refine nodup_app ih1.1 (nodup_app (nodup_app (nodup_one _) ih2.1 ?_) (nodup_one _) ?_) ?_
      · intro z h1 h2
        have := r2 z h2
        rw [List.mem_singleton] at h1
        omega
      · intro z h1 h2
        rw [List.mem_singleton] at h2
        rcases List.mem_append.mp h1 with h | h
        · rw [List.mem_singleton] at h
          omega
        · have := r2 z h
          omega
      · intro z h1 h2
        have q1 := r1 z h1
        simp only [List.mem_append, List.mem_singleton] at h2
        rcases h2 with (h | h) | h
        · omega
        · have := r2 z h
          omega
        · omega
    · simp only [List.mem_append, List.mem_singleton] at hk
      rcases hk with h | (h | h) | h
      · have := r1 k h
        omega
      · omega
      · have := r2 k h
        omega
      · omega
theorem mem_labs {c : List MR} {p : Nat} {k : Int} (h : c[p]? = some (.label k)) : k ∈ labs c :=
  List.mem_filterMap.mpr ⟨_, List.mem_of_getElem? h, rfl⟩
theorem uniq_of : ∀ {c : List MR}, (labs c).Nodup → LabUniq c
  | [], _ => fun p q k h => by simp at h
  | m :: c, hn => fun p q k hp hq => by
    have hn' : (labs [m] ++ labs c).Nodup := by
      rw [← labs_app]
      exact hn
    have ih := uniq_of (List.nodup_append.mp hn').2.1
    have cross : ∀ {j : Nat}, m = .label k → c[j]? = some (.label k) → False := fun {j} e h => by
      subst e
      exact (List.nodup_append.mp hn').2.2 k (List.mem_singleton.mpr rfl) k (mem_labs h) rfl
    cases p with
    | zero =>
      cases q with
      | zero => rfl
      | succ q =>
        simp at hp hq
        exact (cross hp hq).elim
    | succ p =>
      cases q with
      | zero =>
        simp at hp hq
        exact (cross hq hp).elim
      | succ q =>
        simp at hp hq
        rw [ih p q k hp hq]
/-! jumps: ahead, or to a label that a begin follows, or out of it (X) -/
def Jm (m : MR) (k : Int) : Prop := m = .go k ∨ ∃ x, m = .unl x k
def JX (X : Int → Prop) (c : List MR) : Prop := ∀ a m b, c = a ++ m :: b → ∀ k, Jm m k → X k ∨ (∃ b1 b2, b = b1 ++ .label k :: b2) ∨ ∃ a1 a2, a = a1 ++ .label k :: .beg :: a2
theorem JX.mono {X Y : Int → Prop} {c : List MR} (h : JX X c) (s : ∀ k, X k → Y k) : JX Y c := fun a m b e k hk => (h a m b e k hk).imp (s k) id
/-- a split of two lists put together -/
theorem split2 {c d a b : List MR} {m : MR} (e : c ++ d = a ++ m :: b) : (∃ r, a = c ++ r ∧ d = r ++ m :: b) ∨ ∃ r, c = a ++ m :: r ∧ b = r ++ d := by
  rcases List.append_eq_append_iff.mp e with ⟨r, e1, e2⟩ | ⟨r, e1, e2⟩
  · exact .inl ⟨r, e1, e2⟩
  · cases r with
    | nil =>
      rw [List.append_nil] at e1
      rw [List.nil_append] at e2
      exact .inl ⟨[], by rw [List.append_nil, e1], by rw [List.nil_append]; exact e2.symm⟩
    | cons r0 r =>
      rw [List.cons_append] at e2
      obtain ⟨rfl, e3⟩ := List.cons.inj e2
      exact .inr ⟨r, e1, e3⟩
theorem JX.app {X : Int → Prop} {c d : List MR} (hc : JX X c) (hd : JX X d) : JX X (c ++ d) := fun a m b e k hk => by
  rcases split2 e with ⟨r, e1, e2⟩ | ⟨r, e1, e2⟩
  · rcases hd r m b e2 k hk with h | h | ⟨a1, a2, h⟩
    · exact .inl h
    · exact .inr (.inl h)
    · exact .inr (.inr ⟨c ++ a1, a2, by rw [e1, h, List.append_assoc]⟩)
  · rcases hc a m r e1 k hk with h | ⟨b1, b2, h⟩ | h
    · exact .inl h
    · exact .inr (.inl ⟨b1, b2 ++ d, by rw [e2, h, List.append_assoc]; rfl⟩)
    · exact .inr (.inr h)
theorem JX.nil {X : Int → Prop} : JX X [] := fun a m b e => by simp at e
theorem JX.one {X : Int → Prop} {m : MR} (h : ∀ k, Jm m k → X k) : JX X [m] := fun a m' b e k hk => by
  have : m' = m := by
    have hm : m' ∈ [m] := by rw [e]; simp
    exact List.mem_singleton.mp hm
  subst this
  exact .inl (h k hk)
/-- a label closes what jumps to it -/
theorem JX.shut {X : Int → Prop} {c : List MR} {n : Int} (h : JX (fun k => X k ∨ k = n) c) : JX X (c ++ [.label n]) := fun a m b e k hk => by
  rcases split2 e with ⟨r, e1, e2⟩ | ⟨r, e1, e2⟩
  · have : m = .label n := by
      have hm : m ∈ [MR.label n] := by rw [e2]; simp
      exact List.mem_singleton.mp hm
    subst this
    rcases hk with hk | ⟨x, hk⟩ <;> cases hk
  · rcases h a m r e1 k hk with (h | rfl) | ⟨b1, b2, h⟩ | h
    · exact .inl h
    · exact .inr (.inl ⟨r, [], e2⟩)
    · exact .inr (.inl ⟨b1, b2 ++ [.label n], by rw [e2, h, List.append_assoc]; rfl⟩)
    · exact .inr (.inr h)
/-- a loop's head -/
theorem JX.loop {X : Int → Prop} {c : List MR} {n : Int} (h : JX (fun k => X k ∨ k = n) c) : JX X (.label n :: .beg :: c) := fun a m b e k hk => by
  have e' : ([.label n, .beg] : List MR) ++ c = a ++ m :: b := e
  rcases split2 e' with ⟨r, e1, e2⟩ | ⟨r, e1, e2⟩
  · rcases h r m b e2 k hk with (h | rfl) | h | ⟨a1, a2, h⟩
    · exact .inl h
    · exact .inr (.inr ⟨[], r, e1⟩)
    · exact .inr (.inl h)
    · exact .inr (.inr ⟨[.label n, .beg] ++ a1, a2, by rw [e1, h, List.append_assoc]⟩)
  · have hm : m ∈ ([.label n, .beg] : List MR) := by rw [e1]; simp
    simp only [List.mem_cons, List.mem_nil_iff, or_false] at hm
    rcases hm with rfl | rfl <;> (rcases hk with hk | ⟨x, hk⟩ <;> cases hk)
theorem strt_nojump {L : List Int} {m : MR} (h : Strt L m) (k : Int) : ¬ Jm m k := fun hk => by
  rcases hk with rfl | ⟨x, rfl⟩
  · exact h.2
  · exact h.2
theorem Blk.jumps {L : List Int} {n : Int} {c : List MR} {L1 : List Int} {n1 : Int} (h : Blk L n c L1 n1) : JX (fun _ => False) c := by
  have one : ∀ {X : Int → Prop} {m : MR}, (∀ k, ¬ Jm m k) → JX X [m] := fun {X m} h => .one fun k hk => absurd hk (h k)
  have no : ∀ {m : MR}, (∀ k, m ≠ .go k) → (∀ x k, m ≠ .unl x k) → ∀ k, ¬ Jm m k := fun {m} h1 h2 k hk => by
    rcases hk with hk | ⟨x, hk⟩
    · exact h1 k hk
    · exact h2 x k hk
  have all : ∀ {X : Int → Prop} {c : List MR}, JX (fun _ => False) c → JX X c := fun {X c} h => h.mono fun k z => z.elim
  induction h with
  | nil => exact .nil
  | beg _ ih => exact ih.app (one (no (fun k e => by cases e) fun x k e => by cases e))
  | str _ hs ih => exact ih.app (one (strt_nojump hs))
  | @choice L n c L1 n1 x c1 L2 n2 c2 L3 n3 b1 hx b2 b3 ih1 ih2 ih3 =>
    refine ih1.app ?_
    have t1 : JX (fun k => k = n1 + 1 ∨ k = n1) ([.unl x n1] ++ c1 ++ [.go (n1 + 1)]) := by
      refine ((JX.one fun k hk => ?_).app (all ih2)).app (.one fun k hk => ?_)
      · rcases hk with hk | ⟨y, hk⟩ <;> cases hk
        exact .inr rfl
      · rcases hk with hk | ⟨y, hk⟩ <;> cases hk
        exact .inl rfl
    have t2 : JX (fun k => False ∨ k = n1 + 1) ([.unl x n1] ++ c1 ++ [.go (n1 + 1)] ++ [.label n1] ++ c2) := (t1.shut.app (all ih3)).mono fun k h => .inr h
    have t3 := t2.shut
    have e : ([.unl x n1] ++ c1 ++ [.go (n1 + 1), .label n1] ++ c2 ++ [.label (n1 + 1)] : List MR) = [.unl x n1] ++ c1 ++ [.go (n1 + 1)] ++ [.label n1] ++ c2 ++ [.label (n1 + 1)] := by simp
    rw [e]
    exact t3
  | @round L n c L1 n1 x k0 c1 L2 n2 b1 h0 h3 b2 ih1 ih2 =>
    refine ih1.app ?_
    have t1 : JX (fun k => (False ∨ k = n1 + 1) ∨ k = n1) ([.unl x (n1 + 1)] ++ c1 ++ [.op .take x x (x + 1)] ++ [.go n1]) := by
      refine (((JX.one fun k hk => ?_).app (all ih2)).app (one (no (fun k e => by cases e) fun x k e => by cases e))).app (.one fun k hk => ?_)
      · rcases hk with hk | ⟨y, hk⟩ <;> cases hk
        exact .inl (.inr rfl)
      · rcases hk with hk | ⟨y, hk⟩ <;> cases hk
        exact .inr rfl
    have t2 := ((one (no (m := .put x k0) (fun k e => by cases e) fun x k e => by cases e)).app (one (no (m := .put (x + 1) 1) (fun k e => by cases e) fun x k e => by cases e))).app t1.loop
    have t3 := t2.shut
    have e : ([.put x k0, .put (x + 1) 1, .label n1, .beg, .unl x (n1 + 1)] ++ c1 ++ [.op .take x x (x + 1), .go n1, .label (n1 + 1)] : List MR) =
      [.put x k0] ++ [.put (x + 1) 1] ++ (.label n1 :: .beg :: ([.unl x (n1 + 1)] ++ c1 ++ [.op .take x x (x + 1)] ++ [.go n1])) ++ [.label (n1 + 1)] := by simp
    rw [e]
    exact t3
end K48
set_option maxHeartbeats 1000000
set_option linter.all false
/-! plain: cells are laid before they are read -/
namespace K48
open PySem L2
def Sub (a b : List Int) : Prop := ∀ x ∈ a, x ∈ b
theorem Sub.rfl {a : List Int} : Sub a a := fun _ h => h
theorem Sub.trans {a b c : List Int} (h : Sub a b) (g : Sub b c) : Sub a c := fun x z => g x (h x z)
/-- from L, by the labels' E, c leaves L1 -/
def Ty (E : Int → List Int) : List Int → List MR → List Int → Prop
  | L, [], L1 => Sub L1 L
  | L, m :: c, L1 => Sub m.reads L ∧ match m with
    | .go k => Sub (E k) L ∧ ∃ L', Ty E L' c L1
    | .unl _ k => Sub (E k) L ∧ Ty E L c L1
    | .label k => Sub (E k) L ∧ Ty E (E k) c L1
    | .give _ => ∃ L', Ty E L' c L1
    | .nothing => ∃ L', Ty E L' c L1
    | m => Ty E (L ++ m.lays.toList) c L1
theorem Ty.grow {E : Int → List Int} : ∀ {c : List MR} {L L' L1 : List Int}, Ty E L c L1 → Sub L L' → Ty E L' c L1
  | [], L, L', L1, h, s => Sub.trans (show Sub L1 L from h) s
  | m :: c, L, L', L1, h, s => by
    obtain ⟨h1, h2⟩ := h
    refine ⟨h1.trans s, ?_⟩
    have app : ∀ x, Sub (L ++ x) (L' ++ x) := fun x z hz => by
      rcases List.mem_append.mp hz with q | q
      · exact List.mem_append_left _ (s z q)
      · exact List.mem_append_right _ q
    cases m with
    | go k => exact ⟨h2.1.trans s, h2.2⟩
    | unl x k => exact ⟨h2.1.trans s, h2.2.grow s⟩
    | label k => exact ⟨h2.1.trans s, h2.2⟩
    | give _ => exact h2
    | nothing => exact h2
    | _ => exact Ty.grow (show Ty E (L ++ _) c L1 from h2) (app _)
theorem Ty.app {E : Int → List Int} : ∀ {c d : List MR} {L L1 L2 : List Int}, Ty E L c L1 → Ty E L1 d L2 → Ty E L (c ++ d) L2
  | [], d, L, L1, L2, h, g => g.grow h
  | m :: c, d, L, L1, L2, h, g => by
    obtain ⟨h1, h2⟩ := h
    refine ⟨h1, ?_⟩
    cases m with
    | go k =>
      obtain ⟨q, L', t⟩ := h2
      exact ⟨q, L', t.app g⟩
    | unl x k => exact ⟨h2.1, h2.2.app g⟩
    | label k => exact ⟨h2.1, h2.2.app g⟩
    | give _ =>
      obtain ⟨L', t⟩ := h2
      exact ⟨L', t.app g⟩
    | nothing =>
      obtain ⟨L', t⟩ := h2
      exact ⟨L', t.app g⟩
    | _ => exact Ty.app (show Ty E (L ++ _) c L1 from h2) g
/-- a row that only goes on -/
theorem Ty.plain {E : Int → List Int} {L : List Int} {m : MR} {c : List MR} {L1 : List Int} (h : Sub m.reads L) (hn : ∀ k, ¬ Jm m k) (hl : ∀ k, m ≠ .label k) (hg : Ty E (L ++ m.lays.toList) c L1) : Ty E L (m :: c) L1 := by
  refine ⟨h, ?_⟩
  cases m with
  | go k => exact absurd (.inl rfl) (hn k)
  | unl x k => exact absurd (.inr ⟨x, rfl⟩) (hn k)
  | label k => exact absurd rfl (hl k)
  | give c0 => exact ⟨_, hg⟩
  | nothing => exact ⟨_, hg⟩
  | _ => exact hg
theorem Ty.last {E : Int → List Int} {L : List Int} {m : MR} (h : Sub m.reads L) (hn : ∀ k, ¬ Jm m k) (hl : ∀ k, m ≠ .label k) : Ty E L [m] (L ++ m.lays.toList) := .plain h hn hl Sub.rfl
theorem Blk.typed {L : List Int} {n : Int} {c : List MR} {L1 : List Int} {n1 : Int} (h : Blk L n c L1 n1) : ∃ E0 : Int → List Int, ∀ E : Int → List Int, (∀ k, n ≤ k → k < n1 → E k = E0 k) → Ty E L c L1 := by
  induction h with
  | nil => exact ⟨fun _ => [], fun _ _ => Sub.rfl⟩
  | @beg L n c L1 n1 _ ih =>
    obtain ⟨E0, h⟩ := ih
    refine ⟨E0, fun E e => (h E e).app ?_⟩
    have := Ty.last (E := E) (L := L1) (m := .beg) (fun x hx => (by cases hx)) (fun k hk => by rcases hk with hk | ⟨x, hk⟩ <;> cases hk) (fun k e => by cases e)
    rwa [show L1 ++ (MR.beg).lays.toList = L1 from List.append_nil L1] at this
  | str _ hs ih =>
    obtain ⟨E0, h⟩ := ih
    exact ⟨E0, fun E e => (h E e).app (.last hs.1 (strt_nojump hs) (strt_nolab hs))⟩
  | @choice L n c L1 n1 x c1 L2 n2 c2 L3 n3 b1 hx b2 b3 ih1 ih2 ih3 =>
    have l1 := b1.le
    have l2 := b2.le
    have l3 := b3.le
    obtain ⟨E1, h1⟩ := ih1
    obtain ⟨E2, h2⟩ := ih2
    obtain ⟨E3, h3⟩ := ih3
    refine ⟨fun k => if k < n1 then E1 k else if k < n1 + 2 then L1 else if k < n2 then E2 k else E3 k, fun E e => ?_⟩
    replace e : ∀ k, n ≤ k → k < n3 → E k = if k < n1 then E1 k else if k < n1 + 2 then L1 else if k < n2 then E2 k else E3 k := e
    have t1 := h1 E fun k q1 q2 => by
      rw [e k q1 (by omega), if_pos q2]
    have t2 := h2 E fun k q1 q2 => by
      rw [e k (by omega) (by omega), if_neg (by omega), if_neg (by omega), if_pos q2]
    have t3 := h3 E fun k q1 q2 => by
      rw [e k (by omega) (by omega), if_neg (by omega), if_neg (by omega), if_neg (by omega)]
    have e1 : E n1 = L1 := by rw [e n1 (by omega) (by omega), if_neg (by omega), if_pos (by omega)]
    have e2 : E (n1 + 1) = L1 := by rw [e (n1 + 1) (by omega) (by omega), if_neg (by omega), if_pos (by omega)]
    refine t1.app ?_
    have last : Ty E L3 [.label (n1 + 1)] L1 := ⟨fun z hz => (by cases hz), by rw [e2]; exact b3.sub, by rw [e2]; exact Sub.rfl⟩
    have s3 : Ty E L1 (c2 ++ [.label (n1 + 1)]) L1 := t3.app last
    have s2 : Ty E L2 (.go (n1 + 1) :: .label n1 :: (c2 ++ [.label (n1 + 1)])) L1 := ⟨fun z hz => (by cases hz), by rw [e2]; exact b2.sub, L1, fun z hz => (by cases hz), by rw [e1]; exact Sub.rfl, by rw [e1]; exact s3⟩
    have s1 : Ty E L1 (.unl x n1 :: (c1 ++ (.go (n1 + 1) :: .label n1 :: (c2 ++ [.label (n1 + 1)])))) L1 := ⟨fun z hz => by rw [List.mem_singleton.mp hz]; exact hx, by rw [e1]; exact Sub.rfl, t2.app s2⟩
    have ee : ([.unl x n1] ++ c1 ++ [.go (n1 + 1), .label n1] ++ c2 ++ [.label (n1 + 1)] : List MR) = .unl x n1 :: (c1 ++ (.go (n1 + 1) :: .label n1 :: (c2 ++ [.label (n1 + 1)]))) := by simp
    rw [ee]
    exact s1
  | @round L n c L1 n1 x k0 c1 L2 n2 b1 h0 h3 b2 ih1 ih2 =>
    have l1 := b1.le
    have l2 := b2.le
    obtain ⟨E1, h1⟩ := ih1
    obtain ⟨E2, h2⟩ := ih2
    refine ⟨fun k => if k < n1 then E1 k else if k < n1 + 2 then L1 ++ [x, x + 1] else E2 k, fun E e => ?_⟩
    replace e : ∀ k, n ≤ k → k < n2 → E k = if k < n1 then E1 k else if k < n1 + 2 then L1 ++ [x, x + 1] else E2 k := e
    have t1 := h1 E fun k q1 q2 => by
      rw [e k q1 (by omega), if_pos q2]
    have t2 := h2 E fun k q1 q2 => by
      rw [e k (by omega) (by omega), if_neg (by omega), if_neg (by omega)]
    have e1 : E n1 = L1 ++ [x, x + 1] := by rw [e n1 (by omega) (by omega), if_neg (by omega), if_pos (by omega)]
    have e2 : E (n1 + 1) = L1 ++ [x, x + 1] := by rw [e (n1 + 1) (by omega) (by omega), if_neg (by omega), if_pos (by omega)]
    refine t1.app ?_
    have sb : Sub (L1 ++ [x, x + 1]) L2 := b2.sub
    have sx : x ∈ L1 ++ [x, x + 1] := by simp
    have sy : x + 1 ∈ L1 ++ [x, x + 1] := by simp
    have tail : Ty E L2 [.op .take x x (x + 1), .go n1, .label (n1 + 1)] (L1 ++ [x, x + 1]) := by
      refine ⟨fun z hz => ?_, fun z hz => (by cases hz), by rw [e1]; exact fun z hz => List.mem_append_left _ (sb z hz), L1 ++ [x, x + 1], fun z hz => (by cases hz), by rw [e2]; exact Sub.rfl, by rw [e2]; exact Sub.rfl⟩
      rcases List.mem_cons.mp hz with rfl | hz
      · exact sb _ sx
      · rw [List.mem_singleton.mp hz]
        exact sb _ sy
    have loop : Ty E (L1 ++ [x, x + 1]) (.label n1 :: .beg :: .unl x (n1 + 1) :: (c1 ++ [.op .take x x (x + 1), .go n1, .label (n1 + 1)])) (L1 ++ [x, x + 1]) := by
      refine ⟨fun z hz => (by cases hz), by rw [e1]; exact Sub.rfl, ?_⟩
      rw [e1]
      refine ⟨fun z hz => (by cases hz), ?_⟩
      show Ty E ((L1 ++ [x, x + 1]) ++ []) _ _
      rw [List.append_nil]
      exact ⟨fun z hz => by rw [List.mem_singleton.mp hz]; exact sx, by rw [e2]; exact Sub.rfl, t2.app tail⟩
    have all : Ty E L1 (.put x k0 :: .put (x + 1) 1 :: .label n1 :: .beg :: .unl x (n1 + 1) :: (c1 ++ [.op .take x x (x + 1), .go n1, .label (n1 + 1)])) (L1 ++ [x, x + 1]) := by
      refine ⟨fun z hz => (by cases hz), fun z hz => (by cases hz), ?_⟩
      show Ty E ((L1 ++ [x]) ++ [x + 1]) _ _
      rw [List.append_assoc]
      exact loop
    exact all
/-- what is laid at each row -/
theorem Ty.sets {E : Int → List Int} : ∀ {c : List MR} {L L1 : List Int}, Ty E L c L1 → ∃ D : Nat → List Int, Sub (D 0) L ∧ ∀ i m, c[i]? = some m → Sub m.reads (D i) ∧
    (∀ k, Jm m k → Sub (E k) (D i)) ∧ (∀ k, m = .label k → Sub (D i) (E k)) ∧
    ((∃ k, m = .go k) ∨ (∃ x, m = .give x) ∨ m = .nothing ∨ Sub (D (i + 1)) (D i ++ m.lays.toList))
  | [], L, L1, h => ⟨fun _ => [], fun x hx => (by cases hx), fun i m e => (by simp at e)⟩
  | m :: c, L, L1, h => by
    obtain ⟨h1, h2⟩ := h
    have mk : ∀ {L' : List Int} (D0 : List Int), Ty E L' c L1 → Sub D0 L → Sub m.reads D0 → (∀ k, Jm m k → Sub (E k) D0) → (∀ k, m = .label k → Sub D0 (E k)) →
        ((∃ k, m = .go k) ∨ (∃ x, m = .give x) ∨ m = .nothing ∨ Sub L' (D0 ++ m.lays.toList)) → ∃ D : Nat → List Int, Sub (D 0) L ∧ ∀ i m', (m :: c)[i]? = some m' → Sub m'.reads (D i) ∧
          (∀ k, Jm m' k → Sub (E k) (D i)) ∧ (∀ k, m' = .label k → Sub (D i) (E k)) ∧ ((∃ k, m' = .go k) ∨ (∃ x, m' = .give x) ∨ m' = .nothing ∨ Sub (D (i + 1)) (D i ++ m'.lays.toList)) := fun {L'} D0 t q0 q1 q2 q3 q4 => by
      obtain ⟨D, d0, d1⟩ := t.sets
      refine ⟨fun i => match i with | 0 => D0 | i + 1 => D i, q0, fun i m' e => ?_⟩
      cases i with
      | zero =>
        simp at e
        subst e
        refine ⟨q1, q2, q3, ?_⟩
        rcases q4 with q | q | q | q
        · exact .inl q
        · exact .inr (.inl q)
        · exact .inr (.inr (.inl q))
        · exact .inr (.inr (.inr (d0.trans q)))
      | succ i =>
        simp at e
        exact d1 i m' e
    have nj : ∀ {m0 : MR} {D0 : List Int}, m = m0 → (∀ k, m0 ≠ .go k) → (∀ x k, m0 ≠ .unl x k) → ∀ k, Jm m k → Sub (E k) D0 := fun {m0 D0} em n1 n2 k hk => by
      subst em
      rcases hk with hk | ⟨x, hk⟩
      · exact absurd hk (n1 k)
      · exact absurd hk (n2 x k)
    cases m with
    | go k =>
      obtain ⟨q, L', t⟩ := h2
      exact mk L t Sub.rfl h1 (fun k' hk => by rcases hk with hk | ⟨x, hk⟩ <;> cases hk; exact q) (fun k' e => by cases e) (.inl ⟨k, rfl⟩)
    | unl x k => exact mk L h2.2 Sub.rfl h1 (fun k' hk => by rcases hk with hk | ⟨x, hk⟩ <;> cases hk; exact h2.1) (fun k' e => by cases e) (.inr (.inr (.inr (fun z hz => List.mem_append_left _ hz))))
    | label k => exact mk (E k) h2.2 h2.1 (fun z hz => by cases hz) (fun k' hk => by rcases hk with hk | ⟨x, hk⟩ <;> cases hk) (fun k' e => by cases e; exact Sub.rfl) (.inr (.inr (.inr (fun z hz => List.mem_append_left _ hz))))
    | give c0 =>
      obtain ⟨L', t⟩ := h2
      exact mk L t Sub.rfl h1 (fun k' hk => by rcases hk with hk | ⟨x, hk⟩ <;> cases hk) (fun k' e => by cases e) (.inr (.inl ⟨c0, rfl⟩))
    | nothing =>
      obtain ⟨L', t⟩ := h2
      exact mk L t Sub.rfl h1 (fun k' hk => by rcases hk with hk | ⟨x, hk⟩ <;> cases hk) (fun k' e => by cases e) (.inr (.inr (.inl rfl)))
    | _ => exact mk L (show Ty E (L ++ _) c L1 from h2) Sub.rfl h1 (fun k' hk => by rcases hk with hk | ⟨x, hk⟩ <;> cases hk) (fun k' e => by cases e) (.inr (.inr (.inr Sub.rfl)))
end K48
set_option maxHeartbeats 1000000
set_option linter.all false
/-! plain: the run of well-made rows ends -/
namespace K48
open PySem L2
theorem Blk.rowsOk {L : List Int} {n : Int} {c : List MR} {L1 : List Int} {n1 : Int} (h : Blk L n c L1 n1) : ∀ m ∈ c, MrOk m ∧ m.reads.length ≤ 3 ∧ (∀ x, m ≠ .give x) ∧ m ≠ .nothing := by
  have fact : ∀ {m m0 : MR}, m = m0 → MrOk m0 → m0.reads.length ≤ 3 → (∀ x, m0 ≠ .give x) → m0 ≠ .nothing → MrOk m ∧ m.reads.length ≤ 3 ∧ (∀ x, m ≠ .give x) ∧ m ≠ .nothing := fun {m m0} e a b c d => by
    subst e
    exact ⟨a, b, c, d⟩
  have ng : ∀ {m0 : MR}, (∀ x, m0 ≠ .give x) → m0 ≠ .nothing → True := fun _ _ => trivial
  induction h with
  | nil => exact fun m hm => by cases hm
  | beg _ ih =>
    intro m hm
    rcases List.mem_append.mp hm with hm | hm
    · exact ih m hm
    · exact fact (List.mem_singleton.mp hm) trivial (by decide) (fun x e => by cases e) (fun e => by cases e)
  | @str L n c L1 n1 m0 _ hs ih =>
    intro m hm
    rcases List.mem_append.mp hm with hm | hm
    · exact ih m hm
    · rw [List.mem_singleton.mp hm]
      obtain ⟨_, h2⟩ := hs
      cases m0 with
      | op o a b c => exact ⟨trivial, by simp [MR.reads], fun x e => (by cases e), fun e => by cases e⟩
      | put a v => exact ⟨⟨by have := h2.1; omega, by have := h2.2; omega⟩, by simp [MR.reads], fun x e => (by cases e), fun e => by cases e⟩
      | copy a b => exact ⟨trivial, by simp [MR.reads], fun x e => (by cases e), fun e => by cases e⟩
      | fetch a f k => exact ⟨h2, by simp [MR.reads], fun x e => (by cases e), fun e => by cases e⟩
      | lay k a => exact ⟨h2, by simp [MR.reads], fun x e => (by cases e), fun e => by cases e⟩
      | say k a => exact ⟨h2, by simp [MR.reads], fun x e => (by cases e), fun e => by cases e⟩
      | call a f k as => exact ⟨h2, h2.2.2, fun x e => (by cases e), fun e => by cases e⟩
      | _ => exact h2.elim
  | @choice L n c L1 n1 x c1 L2 n2 c2 L3 n3 b1 hx b2 b3 ih1 ih2 ih3 =>
    intro m hm
    simp only [List.mem_append, List.mem_cons, List.mem_nil_iff, or_false] at hm
    rcases hm with hm | (((hm | hm) | hm | hm) | hm) | hm
    · exact ih1 m hm
    · exact fact hm trivial (by simp [MR.reads]) (fun x e => by cases e) (fun e => by cases e)
    · exact ih2 m hm
    · exact fact hm trivial (by simp [MR.reads]) (fun x e => by cases e) (fun e => by cases e)
    · exact fact hm trivial (by simp [MR.reads]) (fun x e => by cases e) (fun e => by cases e)
    · exact ih3 m hm
    · exact fact hm trivial (by simp [MR.reads]) (fun x e => by cases e) (fun e => by cases e)
  | @round L n c L1 n1 x k0 c1 L2 n2 b1 h0 h3 b2 ih1 ih2 =>
    intro m hm
    simp only [List.mem_append, List.mem_cons, List.mem_nil_iff, or_false] at hm
    rcases hm with hm | ((hm | hm | hm | hm | hm) | hm) | hm | hm | hm
    · exact ih1 m hm
    · exact fact hm ⟨by omega, by omega⟩ (by simp [MR.reads]) (fun x e => by cases e) (fun e => by cases e)
    · exact fact hm ⟨by decide, by decide⟩ (by simp [MR.reads]) (fun x e => by cases e) (fun e => by cases e)
    · exact fact hm trivial (by simp [MR.reads]) (fun x e => by cases e) (fun e => by cases e)
    · exact fact hm trivial (by simp [MR.reads]) (fun x e => by cases e) (fun e => by cases e)
    · exact fact hm trivial (by simp [MR.reads]) (fun x e => by cases e) (fun e => by cases e)
    · exact ih2 m hm
    · exact fact hm trivial (by simp [MR.reads]) (fun x e => by cases e) (fun e => by cases e)
    · exact fact hm trivial (by simp [MR.reads]) (fun x e => by cases e) (fun e => by cases e)
    · exact fact hm trivial (by simp [MR.reads]) (fun x e => by cases e) (fun e => by cases e)
/-- what the runs ask of the rows -/
structure Well (parts : Nat) (rows : List MR) : Prop where
  uniq : LabUniq rows
  ok : ∀ m ∈ rows, MrOk m
  rd : ∀ m ∈ rows, m.reads.length ≤ 3
  pos : 0 < rows.length
  flow : ∀ i, i + 1 = rows.length ∨ ∀ m, rows[i]? = some m → (∀ x, m ≠ .give x) ∧ m ≠ .nothing
  last : ∀ m, rows[rows.length - 1]? = some m → (∃ x, m = .give x) ∨ m = .nothing
  jump : ∀ i m k, rows[i]? = some m → Jm m k → ∃ p, rows[p]? = some (.label k) ∧ (i < p ∨ rows[p + 1]? = some .beg)
  sets : ∃ D : Nat → List Int, Sub (D 0) (rgI 0 parts) ∧ ∀ i m, rows[i]? = some m → Sub m.reads (D i) ∧ (∀ p k, Jm m k → rows[p]? = some (.label k) → Sub (D p) (D i)) ∧
    ((∃ k, m = .go k) ∨ (∃ x, m = .give x) ∨ m = .nothing ∨ Sub (D (i + 1)) (D i ++ m.lays.toList))
theorem WfRows.well {parts : Nat} {rows : List MR} (h : WfRows parts rows) : Well parts rows := by
  obtain ⟨c, L, n, last, rfl, hb, hl⟩ := h
  have hlt : (∃ x, last = .give x) ∨ last = .nothing := by
    cases last with
    | give x => exact .inl ⟨x, rfl⟩
    | nothing => exact .inr rfl
    | _ => exact hl.elim
  have nolab : ∀ k, last ≠ .label k := fun k e => by
    rcases hlt with ⟨x, e2⟩ | e2 <;> rw [e2] at e <;> cases e
  have nojmp : ∀ k, ¬ Jm last k := fun k e => by
    rcases hlt with ⟨x, e2⟩ | e2 <;> rw [e2] at e <;> (rcases e with e | ⟨y, e⟩ <;> cases e)
  have hlabs : labs (c ++ [last]) = labs c := by rw [labs_app, labs_none nolab, List.append_nil]
  have hrows := hb.rowsOk
  have hJ : JX (fun _ => False) (c ++ [last]) := hb.jumps.app (.one fun k hk => absurd hk (nojmp k))
  obtain ⟨E0, hE⟩ := hb.typed
  have hT : Ty E0 (rgI 0 parts) (c ++ [last]) [] := by
    refine (hE E0 fun _ _ _ => rfl).app ?_
    rcases hlt with ⟨x, rfl⟩ | rfl
    · refine ⟨fun z hz => ?_, [], fun z hz => by cases hz⟩
      cases x with
      | none => cases hz
      | some c0 =>
        rw [List.mem_singleton.mp hz]
        exact hl
    · exact ⟨fun z hz => (by cases hz), [], fun z hz => by cases hz⟩
  obtain ⟨D, d0, d1⟩ := hT.sets
  have hlen : (c ++ [last]).length = c.length + 1 := by simp
  refine ⟨uniq_of (by rw [hlabs]; exact hb.labs.1), fun m hm => ?_, fun m hm => ?_, by omega, fun i => ?_, fun m hm => ?_, fun i m k hm hk => ?_, D, d0, fun i m hm => ?_⟩
  · rcases List.mem_append.mp hm with hm | hm
    · exact (hrows m hm).1
    · rw [List.mem_singleton.mp hm]
      rcases hlt with ⟨x, rfl⟩ | rfl <;> trivial
  · rcases List.mem_append.mp hm with hm | hm
    · exact (hrows m hm).2.1
    · rw [List.mem_singleton.mp hm]
      rcases hlt with ⟨x, rfl⟩ | rfl
      · cases x <;> simp [MR.reads]
      · simp [MR.reads]
  · by_cases e : i + 1 = (c ++ [last]).length
    · exact .inl e
    · refine .inr fun m hm => ?_
      have hi := (List.getElem?_eq_some_iff.mp hm).1
      rw [List.getElem?_append_left (by omega)] at hm
      exact (hrows m (List.mem_of_getElem? hm)).2.2
  · rw [hlen, Nat.add_sub_cancel, List.getElem?_append_right (Nat.le_refl _), Nat.sub_self] at hm
    cases hm
    exact hlt
  · have hi := (List.getElem?_eq_some_iff.mp hm).1
    have es : c ++ [last] = (c ++ [last]).take i ++ m :: (c ++ [last]).drop (i + 1) := by
      have e1 := (List.take_append_drop i (c ++ [last])).symm
      rw [List.drop_eq_getElem_cons hi] at e1
      have e2 : (c ++ [last])[i] = m := (List.getElem?_eq_some_iff.mp hm).2
      rw [e2] at e1
      exact e1
    have tl : ((c ++ [last]).take i).length = i := by rw [List.length_take]; omega
    rcases hJ _ m _ es k hk with h | ⟨b1, b2, h⟩ | ⟨a1, a2, h⟩
    · exact h.elim
    · refine ⟨i + 1 + b1.length, ?_, .inl (by omega)⟩
      have : ((c ++ [last]).drop (i + 1))[b1.length]? = some (.label k) := by rw [h]; simp
      rw [List.getElem?_drop] at this
      exact this
    · have hl1 : a1.length + 1 < i := by
        have := congrArg List.length h
        rw [tl] at this
        simp at this
        omega
      refine ⟨a1.length, ?_, .inr ?_⟩
      · have : ((c ++ [last]).take i)[a1.length]? = some (.label k) := by rw [h]; simp
        rw [List.getElem?_take, if_pos (by omega)] at this
        exact this
      · have : ((c ++ [last]).take i)[a1.length + 1]? = some .beg := by
          rw [h, List.getElem?_append_right (by omega), show a1.length + 1 - a1.length = 1 by omega]
          rfl
        rw [List.getElem?_take, if_pos (by omega)] at this
        exact this
  · obtain ⟨q1, q2, q3, q4⟩ := d1 i m hm
    refine ⟨q1, fun p k hk hp => ?_, q4⟩
    obtain ⟨_, _, r3, _⟩ := d1 p _ hp
    exact (r3 k rfl).trans (q2 k hk)
end K48
set_option maxHeartbeats 1000000
set_option linter.all false
/-! plain: the middle run ends, with events -/
namespace K48
open PySem L2
theorem Well.tgt {parts : Nat} {rows : List MR} (h : Well parts rows) : TargetsOk rows := fun m hm => by
  obtain ⟨i, hi⟩ := List.getElem?_of_mem hm
  have key : ∀ k, Jm m k → ∃ p, spotOf rows k = some p := fun k hk => by
    obtain ⟨p, hp, _⟩ := h.jump i m k hi hk
    exact ⟨p, (spotOf_iff h.uniq k p).mpr hp⟩
  cases m with
  | go k => exact key k (.inl rfl)
  | unl x k => exact key k (.inr ⟨x, rfl⟩)
  | _ => trivial
theorem mem_nexts {rows : List MR} {i s : Nat} (h : s ∈ nexts rows i) : ∃ m, rows[i]? = some m ∧ ((∃ k, Jm m k ∧ spotOf rows k = some s) ∨ (s = i + 1 ∧ (∀ k, m ≠ .go k) ∧ (∀ x, m ≠ .give x) ∧ m ≠ .nothing)) := by
  unfold nexts at h
  cases e : rows[i]? with
  | none => rw [e] at h; cases h
  | some m =>
    refine ⟨m, rfl, ?_⟩
    rw [e] at h
    have tl : ∀ {o : Option Nat}, s ∈ o.toList → o = some s := fun {o} h => by
      cases o with
      | none => cases h
      | some t => rw [List.mem_singleton.mp h]
    cases m with
    | go k => exact .inl ⟨k, .inl rfl, tl h⟩
    | unl x k =>
      rcases List.mem_cons.mp h with h | h
      · exact .inr ⟨h, fun k e => (by cases e), fun x e => (by cases e), fun e => by cases e⟩
      · exact .inl ⟨k, .inr ⟨x, rfl⟩, tl h⟩
    | give x => cases h
    | nothing => cases h
    | _ => exact .inr ⟨List.mem_singleton.mp h, fun k e => (by cases e), fun x e => (by cases e), fun e => by cases e⟩
theorem Well.nx {parts : Nat} {rows : List MR} (h : Well parts rows) : ∀ i, i < rows.length → ∀ s ∈ nexts rows i, s < rows.length := fun i hi s hs => by
  obtain ⟨m, hm, h1 | ⟨h1, _, h3, h4⟩⟩ := mem_nexts hs
  · obtain ⟨k, _, h2⟩ := h1
    exact (List.getElem?_eq_some_iff.mp ((spotOf_iff h.uniq k s).mp h2)).1
  · by_cases e : i + 1 = rows.length
    · have hl := h.last m (by rw [show rows.length - 1 = i by omega]; exact hm)
      rcases hl with ⟨x, e2⟩ | e2
      · exact absurd e2 (h3 x)
      · exact absurd e2 h4
    · omega
instance (rows : List MR) (i : Nat) : Decidable (∃ k, rows[i]? = some (.label k)) := by
  cases e : rows[i]? with
  | none => exact isFalse fun ⟨k, h⟩ => by cases h
  | some m =>
    cases m with
    | label k => exact isTrue ⟨k, rfl⟩
    | _ => exact isFalse fun ⟨k, h⟩ => by cases h
/-- how far the next begin or the end may be -/
def wgt (rows : List MR) (i : Nat) : Nat := if rows[i]? = some .beg then 0 else if (∃ k, rows[i]? = some (.label k)) ∧ rows[i + 1]? = some .beg then 1 else rows.length - i + 3
theorem wgt_le (rows : List MR) (i : Nat) : wgt rows i ≤ rows.length - i + 3 := by
  unfold wgt
  split
  · omega
  · split <;> omega
/-- a step goes to a next row, nearer -/
theorem Well.near {parts : Nat} {rows : List MR} (h : Well parts rows) {i s : Nat} {m : MR} (hm : rows[i]? = some m) (hs : s ∈ nexts rows i) (hb : m ≠ .beg) : wgt rows s < wgt rows i := by
  have hi := (List.getElem?_eq_some_iff.mp hm).1
  have hsn := h.nx i hi s hs
  obtain ⟨m', hm', h1⟩ := mem_nexts hs
  rw [hm] at hm'
  cases hm'
  have nb : rows[i]? ≠ some .beg := fun z => by rw [hm] at z; exact hb (Option.some.inj z)
  have ws := wgt_le rows s
  by_cases hl : (∃ k, rows[i]? = some (.label k)) ∧ rows[i + 1]? = some .beg
  · have wi : wgt rows i = 1 := by unfold wgt; rw [if_neg nb, if_pos hl]
    obtain ⟨⟨k, hk⟩, hbeg⟩ := hl
    rw [hm] at hk
    cases hk
    rcases h1 with ⟨k', hk', _⟩ | ⟨rfl, _⟩
    · rcases hk' with e | ⟨x, e⟩ <;> cases e
    · rw [wi]
      unfold wgt
      rw [if_pos hbeg]
      decide
  · have wi : wgt rows i = rows.length - i + 3 := by unfold wgt; rw [if_neg nb, if_neg hl]
    rw [wi]
    rcases h1 with ⟨k, hk, hsp⟩ | ⟨rfl, _⟩
    · have e2 := (spotOf_iff h.uniq k s).mp hsp
      obtain ⟨p, hp, hd⟩ := h.jump i m k hm hk
      have : p = s := h.uniq p s k hp e2
      subst this
      rcases hd with hd | hd
      · omega
      · have : wgt rows p ≤ 1 := by
          unfold wgt
          split
          · omega
          · rw [if_pos ⟨⟨k, e2⟩, hd⟩]
            exact Nat.le_refl 1
        omega
    · omega
/-- the cells of D are laid -/
def Laid (D : List Int) (f : Cells) : Prop := ∀ x ∈ D, ∃ v, f x = some v
theorem Laid.set {D : List Int} {f : Cells} (h : Laid D f) (c v : Int) : Laid (D ++ [c]) (f.set c v) := fun x hx => by
  unfold Cells.set
  by_cases e : x = c
  · exact ⟨v, by rw [if_pos e]⟩
  · rw [if_neg e]
    rcases List.mem_append.mp hx with hx | hx
    · exact h x hx
    · exact absurd (List.mem_singleton.mp hx) e
theorem Laid.sub {D D' : List Int} {f : Cells} (h : Laid D f) (s : Sub D' D) : Laid D' f := fun x hx => h x (s x hx)
theorem allOf_some {f : Cells} : ∀ {as : List Int}, (∀ c ∈ as, ∃ v, f c = some v) → ∃ ws, allOf f as = some ws
  | [], _ => ⟨[], rfl⟩
  | a :: as, h => by
    obtain ⟨v, hv⟩ := h a (List.mem_cons_self ..)
    obtain ⟨ws, hw⟩ := allOf_some fun c hc => h c (List.mem_cons_of_mem _ hc)
    exact ⟨v :: ws, by unfold allOf; rw [hv, hw]⟩
theorem Well.step {parts : Nat} {rows : List MR} (h : Well parts rows) {D : Nat → List Int} (hD : ∀ i m, rows[i]? = some m → Sub m.reads (D i) ∧ (∀ p k, Jm m k → rows[p]? = some (.label k) → Sub (D p) (D i)) ∧
      ((∃ k, m = .go k) ∨ (∃ x, m = .give x) ∨ m = .nothing ∨ Sub (D (i + 1)) (D i ++ m.lays.toList)))
    {s : MS} {m : MR} (hm : rows[s.pc]? = some m) (hl : Laid (D s.pc) s.cells) : ∃ out, mstep rows s m = some out ∧ ∀ evs s', out = .next evs s' → s'.pc ∈ nexts rows s.pc ∧ Laid (D s'.pc) s'.cells := by
  obtain ⟨h1, h2, h3⟩ := hD s.pc m hm
  have rd : ∀ c ∈ m.reads, ∃ v, s.cells c = some v := fun c hc => hl c (h1 c hc)
  have nx1 : (∀ k, m ≠ .go k) → (∀ x, m ≠ .give x) → m ≠ .nothing → s.pc + 1 ∈ nexts rows s.pc := fun a b c => by
    unfold nexts
    rw [hm]
    cases m with
    | go k => exact absurd rfl (a k)
    | give x => exact absurd rfl (b x)
    | nothing => exact absurd rfl c
    | unl x k => exact List.mem_cons_self ..
    | _ => exact List.mem_singleton.mpr rfl
  have d1 : (∀ k, m ≠ .go k) → (∀ x, m ≠ .give x) → m ≠ .nothing → Sub (D (s.pc + 1)) (D s.pc ++ m.lays.toList) := fun a b c => by
    rcases h3 with ⟨k, e⟩ | ⟨x, e⟩ | e | e
    · exact absurd e (a k)
    · exact absurd e (b x)
    · exact absurd e c
    · exact e
  have flow0 : (∀ k, m ≠ .go k) → (∀ x, m ≠ .give x) → m ≠ .nothing → m.lays = none → Laid (D (s.pc + 1)) s.cells := fun a b c e => by
    have := d1 a b c
    rw [e] at this
    exact hl.sub (this.trans (by rw [show (none : Option Int).toList = [] from rfl, List.append_nil]; exact Sub.rfl))
  have flow1 : (∀ k, m ≠ .go k) → (∀ x, m ≠ .give x) → m ≠ .nothing → ∀ c v, m.lays = some c → Laid (D (s.pc + 1)) (s.cells.set c v) := fun a b c c0 v e => by
    have := d1 a b c
    rw [e] at this
    exact (hl.set c0 v).sub this
  have jmp : ∀ k, Jm m k → ∃ p, spotOf rows k = some p ∧ p ∈ nexts rows s.pc ∧ Laid (D p) s.cells := fun k hk => by
    obtain ⟨p, hp, _⟩ := h.jump s.pc m k hm hk
    have e := (spotOf_iff h.uniq k p).mpr hp
    refine ⟨p, e, ?_, hl.sub (h2 p k hk hp)⟩
    unfold nexts
    rw [hm]
    rcases hk with rfl | ⟨x, rfl⟩
    · show p ∈ (spotOf rows k).toList
      rw [e]
      exact List.mem_singleton.mpr rfl
    · show p ∈ (s.pc + 1) :: (spotOf rows k).toList
      rw [e]
      exact List.mem_cons_of_mem _ (List.mem_singleton.mpr rfl)
  cases m with
  | beg => exact ⟨_, rfl, fun evs s' e => by cases e; exact ⟨nx1 (fun k e => by cases e) (fun k e => by cases e) (fun e => by cases e), flow0 (fun k e => by cases e) (fun k e => by cases e) (fun e => by cases e) rfl⟩⟩
  | nothing => exact ⟨_, rfl, fun evs s' e => by cases e⟩
  | label k => exact ⟨_, rfl, fun evs s' e => by cases e; exact ⟨nx1 (fun k e => by cases e) (fun k e => by cases e) (fun e => by cases e), flow0 (fun k e => by cases e) (fun k e => by cases e) (fun e => by cases e) rfl⟩⟩
  | go k =>
    obtain ⟨p, e1, e2, e3⟩ := jmp k (.inl rfl)
    exact ⟨.next [] { s with pc := p }, by simp only [mstep, e1], fun evs s' e => by cases e; exact ⟨e2, e3⟩⟩
  | unl x k =>
    obtain ⟨p, e1, e2, e3⟩ := jmp k (.inr ⟨x, rfl⟩)
    obtain ⟨v, hv⟩ := rd x (List.mem_singleton.mpr rfl)
    refine ⟨.next [] { s with pc := if v = 0 then p else s.pc + 1 }, by simp only [mstep, hv, e1], fun evs s' e => ?_⟩
    cases e
    by_cases z : v = 0
    · dsimp only
      rw [if_pos z]
      exact ⟨e2, e3⟩
    · dsimp only
      rw [if_neg z]
      exact ⟨nx1 (fun k e => by cases e) (fun k e => by cases e) (fun e => by cases e), flow0 (fun k e => by cases e) (fun k e => by cases e) (fun e => by cases e) rfl⟩
  | put c n => exact ⟨_, rfl, fun evs s' e => by cases e; exact ⟨nx1 (fun k e => by cases e) (fun k e => by cases e) (fun e => by cases e), flow1 (fun k e => by cases e) (fun k e => by cases e) (fun e => by cases e) c n rfl⟩⟩
  | copy c d =>
    obtain ⟨v, hv⟩ := rd d (List.mem_singleton.mpr rfl)
    exact ⟨_, by simp only [mstep, hv]; rfl, fun evs s' e => by cases e; exact ⟨nx1 (fun k e => by cases e) (fun k e => by cases e) (fun e => by cases e), flow1 (fun k e => by cases e) (fun k e => by cases e) (fun e => by cases e) c v rfl⟩⟩
  | op o c d e0 =>
    obtain ⟨va, ha⟩ := rd d (by simp [MR.reads])
    obtain ⟨vb, hb⟩ := rd e0 (by simp [MR.reads])
    cases er : reck o va vb with
    | val v => exact ⟨.next [] { s with pc := s.pc + 1, cells := s.cells.set c v }, by simp only [mstep, ha, hb, er], fun evs s' e => by cases e; exact ⟨nx1 (fun k e => by cases e) (fun k e => by cases e) (fun e => by cases e), flow1 (fun k e => by cases e) (fun k e => by cases e) (fun e => by cases e) c v rfl⟩⟩
    | nought => exact ⟨.stop [none], by simp only [mstep, ha, hb, er], fun evs s' e => by cases e⟩
    | great => exact ⟨.stop [none], by simp only [mstep, ha, hb, er], fun evs s' e => by cases e⟩
  | say k c =>
    obtain ⟨v, hv⟩ := rd c (List.mem_singleton.mpr rfl)
    exact ⟨.next [none] { s with pc := s.pc + 1 }, by simp only [mstep, hv], fun evs s' e => by cases e; exact ⟨nx1 (fun k e => by cases e) (fun k e => by cases e) (fun e => by cases e), flow0 (fun k e => by cases e) (fun k e => by cases e) (fun e => by cases e) rfl⟩⟩
  | lay k c =>
    obtain ⟨v, hv⟩ := rd c (List.mem_singleton.mpr rfl)
    exact ⟨.next [none] { s with pc := s.pc + 1, keeps := s.keeps.set "f" k v }, by simp only [mstep, hv], fun evs s' e => by cases e; exact ⟨nx1 (fun k e => by cases e) (fun k e => by cases e) (fun e => by cases e), flow0 (fun k e => by cases e) (fun k e => by cases e) (fun e => by cases e) rfl⟩⟩
  | give x =>
    cases x with
    | none => exact ⟨_, rfl, fun evs s' e => by cases e⟩
    | some c =>
      obtain ⟨v, hv⟩ := rd c (List.mem_singleton.mpr rfl)
      exact ⟨.stop [none], by simp only [mstep, hv], fun evs s' e => by cases e⟩
  | fetch c f k => exact ⟨_, rfl, fun evs s' e => by cases e; exact ⟨nx1 (fun k e => by cases e) (fun k e => by cases e) (fun e => by cases e), flow1 (fun k e => by cases e) (fun k e => by cases e) (fun e => by cases e) c _ rfl⟩⟩
  | call co f n as =>
    obtain ⟨ws, hw⟩ := allOf_some (f := s.cells) (as := as) rd
    refine ⟨.next [none] { s with pc := s.pc + 1, cells := s.cells.setO co (came f n ws) }, by simp only [mstep, hw], fun evs s' e => ?_⟩
    cases e
    refine ⟨nx1 (fun k e => by cases e) (fun k e => by cases e) (fun e => by cases e), ?_⟩
    cases co with
    | none => exact flow0 (fun k e => by cases e) (fun k e => by cases e) (fun e => by cases e) rfl
    | some c => exact flow1 (fun k e => by cases e) (fun k e => by cases e) (fun e => by cases e) c _ rfl
def mu (rows : List MR) (most : Int) (i : Nat) : Nat := most.toNat * (rows.length + 5) + wgt rows i
theorem Well.ends {parts : Nat} {rows : List MR} (h : Well parts rows) {D : Nat → List Int} (hD : ∀ i m, rows[i]? = some m → Sub m.reads (D i) ∧ (∀ p k, Jm m k → rows[p]? = some (.label k) → Sub (D p) (D i)) ∧
      ((∃ k, m = .go k) ∨ (∃ x, m = .give x) ∨ m = .nothing ∨ Sub (D (i + 1)) (D i ++ m.lays.toList))) :
    ∀ (n : Nat) (most : Int) (s : MS), (0 ≤ most → mu rows most s.pc + 1 < n) → 0 < n → s.pc < rows.length → Laid (D s.pc) s.cells → ∃ evs, mrun rows n most s = some evs
  | 0, _, _, _, hn, _, _ => absurd hn (by decide)
  | n + 1, most, s, hmu, _, hpc, hl => by
    by_cases hneg : most < 0
    · exact ⟨[], if_pos hneg⟩
    · have hm : rows[s.pc]? = some rows[s.pc] := List.getElem?_eq_getElem hpc
      generalize rows[s.pc] = m at hm
      obtain ⟨out, ho, hnext⟩ := h.step hD hm hl
      have hrun : mrun rows (n + 1) most s = match mstep rows s m with
          | none => none
          | some (.stop evs) => some evs
          | some (.next evs s') => match mrun rows n (if m = .beg then most - 1 else most) s' with
            | none => none
            | some rest => some (evs ++ rest) := by
        show (if most < 0 then _ else _) = _
        rw [if_neg hneg, hm] <;> rfl
      rw [hrun, ho]
      cases out with
      | stop evs => exact ⟨evs, rfl⟩
      | next evs s' =>
        obtain ⟨hs', hl'⟩ := hnext evs s' rfl
        have hs2 := h.nx s.pc hpc s'.pc hs'
        have hmu0 := hmu (by omega)
        have w' := wgt_le rows s'.pc
        have key : 0 ≤ (if m = .beg then most - 1 else most) → mu rows (if m = .beg then most - 1 else most) s'.pc + 1 < n := fun h0 => by
          by_cases hb : m = .beg
          · rw [if_pos hb] at h0 ⊢
            have e1 : most.toNat = (most - 1).toNat + 1 := by omega
            unfold mu at hmu0 ⊢
            rw [e1, Nat.add_mul, Nat.one_mul] at hmu0
            omega
          · rw [if_neg hb]
            have := h.near hm hs' hb
            unfold mu at hmu0 ⊢
            omega
        obtain ⟨rest, hr⟩ := h.ends hD n _ s' key (by omega) hs2 hl'
        dsimp only
        rw [hr]
        exact ⟨evs ++ rest, rfl⟩
theorem Well.runs {parts : Nat} {rows : List MR} (h : Well parts rows) (hl : rows.length ≤ 700) (ps : List Int) (hp : ps.length = parts) :
    ∃ evs, mrun rows 50000 60 ⟨0, partsC ps ps.length, fun _ _ => none⟩ = some evs := by
  obtain ⟨D, d0, hD⟩ := h.sets
  refine h.ends hD 50000 60 _ (fun _ => ?_) (by decide) h.pos (fun x hx => ?_)
  · have := wgt_le rows 0
    show (60 : Int).toNat * (rows.length + 5) + wgt rows 0 + 1 < 50000
    have : (60 : Int).toNat = 60 := rfl
    rw [this]
    omega
  · have hx' := d0 x hx
    unfold rgI at hx'
    obtain ⟨j, hj, rfl⟩ := List.mem_map.mp hx'
    rw [List.mem_range] at hj
    have hj' : j < ps.length := by omega
    refine ⟨ps[j], ?_⟩
    show partsC ps ps.length ((0 : Int) + (j : Nat)) = some ps[j]
    unfold partsC
    rw [if_pos ⟨by omega, by omega⟩]
    rw [show ((0 : Int) + (j : Nat)).toNat = j by omega]
    exact List.getElem?_eq_getElem hj'
end K48
set_option maxHeartbeats 1000000
set_option linter.all false
/-! plain: the machine's rows do what the middle rows do -/
namespace K48
open PySem L2
/-! runs of the machine, in steps -/
theorem krun_more {rows : List MR} {krows : List KR} : ∀ {n : Nat} {most : Int} {s : KS} {e : List Ev}, krun rows krows n most s = some e → ∀ k, krun rows krows (n + k) most s = some e
  | 0, _, _, _, h, _ => by cases h
  | n + 1, most, s, e, h, k => by
    rw [show n + 1 + k = (n + k) + 1 by omega]
    unfold krun at h ⊢
    by_cases hneg : most < 0
    · rw [if_pos hneg] at h ⊢
      exact h
    · rw [if_neg hneg] at h ⊢
      cases em : krows[s.pc]? with
      | none => rw [em] at h; cases h
      | some m =>
        rw [em] at h
        dsimp only at h ⊢
        cases es : kstep rows s m with
        | none => rw [es] at h; cases h
        | some out =>
          rw [es] at h
          cases out with
          | stop evs => exact h
          | next evs s' =>
            dsimp only at h ⊢
            cases er : krun rows krows n (if m.isRow = true then most - 1 else most) s' with
            | none => rw [er] at h; cases h
            | some rest =>
              rw [er] at h
              rw [krun_more er k]
              exact h
/-- j steps, none of them a row of text's begin -/
def Rch (rows : List MR) (krows : List KR) (j : Nat) (s : KS) (evs : List Ev) (s' : KS) : Prop := ∀ n most rest, 0 ≤ most → krun rows krows n most s' = some rest → krun rows krows (n + j) most s = some (evs ++ rest)
theorem Rch.zero {rows : List MR} {krows : List KR} {s : KS} : Rch rows krows 0 s [] s := fun n most rest _ h => h
theorem Rch.trans {rows : List MR} {krows : List KR} {j k : Nat} {s s1 s2 : KS} {e1 e2 : List Ev} (a : Rch rows krows j s e1 s1) (b : Rch rows krows k s1 e2 s2) : Rch rows krows (j + k) s (e1 ++ e2) s2 := fun n most rest h0 h => by
  have := a (n + k) most (e2 ++ rest) h0 (b n most rest h0 h)
  rw [show n + (j + k) = n + k + j by omega, List.append_assoc]
  exact this
theorem Rch.step {rows : List MR} {krows : List KR} {s s' : KS} {m : KR} {evs : List Ev} (hm : krows[s.pc]? = some m) (hr : m.isRow = false) (hs : kstep rows s m = some (.next evs s')) : Rch rows krows 1 s evs s' := fun n most rest h0 h => by
  show (if most < 0 then _ else _) = _
  rw [if_neg (by omega), hm]
  dsimp only
  rw [hs, hr]
  dsimp only
  rw [show (if false = true then most - 1 else most) = most from rfl, h]
theorem kstop {rows : List MR} {krows : List KR} {s : KS} {m : KR} {evs : List Ev} {most : Int} (h0 : 0 ≤ most) (hm : krows[s.pc]? = some m) (hs : kstep rows s m = some (.stop evs)) : krun rows krows 1 most s = some evs := by
  show (if most < 0 then _ else _) = _
  rw [if_neg (by omega), hm]
  dsimp only
  rw [hs]
theorem loads_run {rows : List MR} {krows : List KR} {f' : Cells} {g : Keeps} {k : Int} : ∀ (cs : List Int) (pc : Nat) (π vs : List Int), (∀ (t : Nat) c, cs[t]? = some c → krows[pc + t]? = some (.load c k)) → allOf f' cs = some vs →
    Rch rows krows cs.length ⟨pc, π, f', g⟩ [] ⟨pc + cs.length, π ++ vs, f', g⟩
  | [], pc, π, vs, _, h => by
    cases h
    rw [List.append_nil]
    exact .zero
  | c :: cs, pc, π, vs, hk, h => by
    unfold allOf at h
    cases e1 : f' c with
    | none => rw [e1] at h; cases h
    | some v =>
      cases e2 : allOf f' cs with
      | none => rw [e1, e2] at h; cases h
      | some ws =>
        rw [e1, e2] at h
        cases h
        have s1 : Rch rows krows 1 ⟨pc, π, f', g⟩ [] ⟨pc + 1, π ++ [v], f', g⟩ := .step (m := .load c k) (by have := hk 0 c rfl; simpa using this) rfl (by simp only [kstep, e1])
        have s2 := loads_run (rows := rows) (g := g) (k := k) cs (pc + 1) (π ++ [v]) ws (fun t d hd => by
          have := hk (t + 1) d (by simpa using hd)
          rw [show pc + 1 + t = pc + (t + 1) by omega]
          exact this) e2
        have := s1.trans s2
        rw [List.length_cons, show cs.length + 1 = 1 + cs.length by omega, show pc + (1 + cs.length) = pc + 1 + cs.length by omega, show π ++ v :: ws = π ++ [v] ++ ws by simp]
        exact this
theorem allOf_reads {rows : List MR} {s : MS} {m : MR} {out : Out} (h : mstep rows s m = some out) : ∃ vs, allOf s.cells m.reads = some vs := by
  have one : ∀ {c : Int} {v : Int}, s.cells c = some v → ∃ vs, allOf s.cells [c] = some vs := fun {c v} e => ⟨[v], by simp only [allOf, e]⟩
  cases m with
  | beg => exact ⟨[], rfl⟩
  | nothing => exact ⟨[], rfl⟩
  | label k => exact ⟨[], rfl⟩
  | go k => exact ⟨[], rfl⟩
  | put c n => exact ⟨[], rfl⟩
  | fetch c f k => exact ⟨[], rfl⟩
  | unl c k =>
    cases e : s.cells c with
    | none => simp only [mstep, e] at h; cases h
    | some v => exact one e
  | copy c d =>
    cases e : s.cells d with
    | none => simp only [mstep, e] at h; cases h
    | some v => exact one e
  | say k c =>
    cases e : s.cells c with
    | none => simp only [mstep, e] at h; cases h
    | some v => exact one e
  | lay k c =>
    cases e : s.cells c with
    | none => simp only [mstep, e] at h; cases h
    | some v => exact one e
  | give x =>
    cases x with
    | none => exact ⟨[], rfl⟩
    | some c =>
      cases e : s.cells c with
      | none => simp only [mstep, e] at h; cases h
      | some v => exact one e
  | op o c d e0 =>
    cases e : s.cells d with
    | none => simp only [mstep, e] at h; cases h
    | some v =>
      cases e2 : s.cells e0 with
      | none => simp only [mstep, e, e2] at h; cases h
      | some v2 => exact ⟨[v, v2], by simp only [MR.reads, allOf, e, e2]⟩
  | call co f n as =>
    cases e : allOf s.cells as with
    | none => simp only [mstep, e] at h; cases h
    | some vs => exact ⟨vs, e⟩
theorem allOf_congr {f g : Cells} : ∀ {cs : List Int}, (∀ c ∈ cs, f c = g c) → allOf f cs = allOf g cs
  | [], _ => rfl
  | c :: cs, h => by
    unfold allOf
    rw [h c (List.mem_cons_self ..), allOf_congr fun d hd => h d (List.mem_cons_of_mem _ hd)]
/-! where the rows lie -/
theorem code_len (rows : List MR) (bs : List Bool) {i : Nat} {m : MR} (hm : rows[i]? = some m) : (codeTo rows bs (i + 1)).length = (codeTo rows bs i).length + (emit bs i m).length := by
  show (codeTo rows bs i ++ (match rows[i]? with | some m => emit bs i m | none => [])).length = _
  rw [hm, List.length_append]
theorem code_pre (rows : List MR) (bs : List Bool) : ∀ {j i : Nat}, i ≤ j → ∃ r, codeTo rows bs j = codeTo rows bs i ++ r
  | 0, i, h => ⟨[], by rw [show i = 0 by omega, List.append_nil]⟩
  | j + 1, i, h => by
    by_cases e : i = j + 1
    · subst e
      exact ⟨[], (List.append_nil _).symm⟩
    · obtain ⟨r, hr⟩ := code_pre rows bs (show i ≤ j by omega)
      refine ⟨r ++ (match rows[j]? with | some m => emit bs j m | none => []), ?_⟩
      show codeTo rows bs j ++ (match rows[j]? with | some m => emit bs j m | none => []) = _
      rw [hr, List.append_assoc]
theorem code_at (rows : List MR) (bs : List Bool) {i t : Nat} {m : MR} {r : KR} (hm : rows[i]? = some m) (hr : (emit bs i m)[t]? = some r) :
    (machineRows rows bs)[(codeTo rows bs i).length + t]? = some (ledR (spotTo rows bs rows.length) r) := by
  have hi := (List.getElem?_eq_some_iff.mp hm).1
  obtain ⟨q, hq⟩ := code_pre rows bs (show i + 1 ≤ rows.length from hi)
  have e : codeTo rows bs (i + 1) = codeTo rows bs i ++ emit bs i m := by
    show codeTo rows bs i ++ (match rows[i]? with | some m => emit bs i m | none => []) = _
    rw [hm]
  unfold machineRows
  rw [List.getElem?_map, hq, e, List.append_assoc, List.getElem?_append_right (by omega), Nat.add_sub_cancel_left, List.getElem?_append_left (List.getElem?_eq_some_iff.mp hr).1, hr]
  rfl
theorem emit_eq {bs : List Bool} {i : Nat} {m : MR} (h : ∀ k, m ≠ .label k) : emit bs i m = (loadsOf bs i m).map (fun c => KR.load c (i : Int)) ++ midOf (i : Int) m ++ storeOf bs i m := by
  unfold emit
  split
  · exact absurd rfl (h _)
  · rfl
theorem spot_eq {rows : List MR} {bs : List Bool} {k : Int} {p : Nat} (hu : LabUniq rows) (h : rows[p]? = some (.label k)) : ∀ {j : Nat}, p < j → spotTo rows bs j k = some (codeTo rows bs p).length
  | j + 1, hp => by
    show (if rows[j]? = some (.label k) then some (codeTo rows bs j).length else spotTo rows bs j k) = _
    by_cases e : rows[j]? = some (.label k)
    · rw [if_pos e, hu j p k e h]
    · rw [if_neg e]
      refine spot_eq hu h ?_
      rcases Nat.lt_or_ge p j with h1 | h1
      · exact h1
      · have : p = j := by omega
        subst this
        exact absurd h e
/-! the relation -/
def hand (bs : List Bool) (i : Nat) : Prop := i > 0 ∧ leftAt bs (i - 1) = true
def Rel (rows : List MR) (bs : List Bool) (live : Nat → Int → Prop) (Sn : Int → Prop) (i : Nat) (f : Cells) (π : List Int) (f' : Cells) : Prop :=
  (¬ hand bs i ∧ π = [] ∧ ∀ d, (live i d ∨ Sn d) → f d = f' d) ∨
  (hand bs i ∧ ∃ m c rest v, rows[i]? = some m ∧ m.reads = c :: rest ∧ c ∉ rest ∧ ¬ Sn c ∧ ((∀ s ∈ nexts rows i, ¬ live s c) ∨ m.lays = some c) ∧ f c = some v ∧ π = [v] ∧ ∀ d, d ≠ c → (live i d ∨ Sn d) → f d = f' d)
section
variable {rows : List MR} {bs : List Bool} {live : Nat → Int → Prop} {Sn : Int → Prop}
theorem left_get {i : Nat} : bs[i]? = some true ↔ leftAt bs i = true := by
  unfold leftAt
  cases e : bs[i]? with
  | none => simp
  | some b => simp
theorem no_hand (hlo : ∀ i, bs[i]? = some true → LeftOk rows live Sn i) {i : Nat} {m : MR} (hm : rows[i]? = some m) (hr : m.reads = []) : ¬ hand bs i := fun ⟨h0, h1⟩ => by
  obtain ⟨_, m2, c, rest, _, _, _, h2, h3, _⟩ := hlo (i - 1) (left_get.mpr h1)
  rw [show i - 1 + 1 = i by omega, hm] at h2
  cases h2
  rw [hr] at h3
  cases h3
/-- behind the loads -/
theorem load_all (hcl : ∀ i, i < rows.length → ∀ c, Fi rows live i c → live i c) {i : Nat} {m : MR} {f f' : Cells} {π vs : List Int} {g : Keeps} (hm : rows[i]? = some m) (hl : ∀ k, m ≠ .label k) (R : Rel rows bs live Sn i f π f') (hv : allOf f m.reads = some vs) :
    Rch rows (machineRows rows bs) (loadsOf bs i m).length ⟨(codeTo rows bs i).length, π, f', g⟩ [] ⟨(codeTo rows bs i).length + (loadsOf bs i m).length, vs, f', g⟩ ∧
    (∀ d, Sn d → f d = f' d) ∧ ∀ s ∈ nexts rows i, ∀ d, m.lays ≠ some d → (live s d ∨ Sn d) → f d = f' d := by
  have hi := (List.getElem?_eq_some_iff.mp hm).1
  have kl : ∀ (t : Nat) c, (loadsOf bs i m)[t]? = some c → (machineRows rows bs)[(codeTo rows bs i).length + t]? = some (.load c (i : Int)) := fun t c ht => by
    refine code_at rows bs hm (r := .load c (i : Int)) ?_
    rw [emit_eq hl, List.append_assoc, List.getElem?_append_left (by rw [List.length_map]; exact (List.getElem?_eq_some_iff.mp ht).1), List.getElem?_map, ht]
    rfl
  have lv : ∀ c ∈ m.reads, live i c := fun c hc => hcl i hi c ⟨m, hm, .inl hc⟩
  have nx : ∀ s ∈ nexts rows i, ∀ d, m.lays ≠ some d → live s d → live i d := fun s hs d hd h => hcl i hi d ⟨m, hm, .inr ⟨hd, s, hs, h⟩⟩
  rcases R with ⟨nh, rfl, ag⟩ | ⟨hh, m', c, rest, v, hm', hr, hc, hS, halt, hfc, rfl, ag⟩
  · have e : loadsOf bs i m = m.reads := if_neg nh
    have hv' : allOf f' m.reads = some vs := by rw [← hv]; exact (allOf_congr fun c hc => ag c (.inl (lv c hc))).symm
    refine ⟨?_, fun d hd => ag d (.inr hd), fun s hs d hd h => ?_⟩
    · have := loads_run (rows := rows) (f' := f') (g := g) (k := (i : Int)) (loadsOf bs i m) (codeTo rows bs i).length [] vs kl (by rw [e]; exact hv')
      exact this
    · rcases h with h | h
      · exact ag d (.inl (nx s hs d hd h))
      · exact ag d (.inr h)
  · rw [hm] at hm'
    cases hm'
    have e : loadsOf bs i m = rest := by
      have e0 : loadsOf bs i m = m.reads.drop 1 := if_pos hh
      rw [e0, hr]
      rfl
    rw [hr] at hv
    unfold allOf at hv
    rw [hfc] at hv
    cases e2 : allOf f rest with
    | none => rw [e2] at hv; cases hv
    | some ws =>
      rw [e2] at hv
      cases hv
      have ne : ∀ d ∈ rest, d ≠ c := fun d hd z => hc (z ▸ hd)
      have hv' : allOf f' rest = some ws := by rw [← e2]; exact (allOf_congr fun d hd => ag d (ne d hd) (.inl (lv d (by rw [hr]; exact List.mem_cons_of_mem _ hd)))).symm
      refine ⟨?_, fun d hd => ag d (fun z => hS (z ▸ hd)) (.inr hd), fun s hs d hd h => ?_⟩
      · have := loads_run (rows := rows) (f' := f') (g := g) (k := (i : Int)) (loadsOf bs i m) (codeTo rows bs i).length [v] ws kl (by rw [e]; exact hv')
        exact this
      · have hdc : d ≠ c := fun z => by
          subst z
          rcases h with h | h
          · rcases halt with q | q
            · exact q s hs h
            · exact hd q
          · exact hS h
        rcases h with h | h
        · exact ag d hdc (.inl (nx s hs d hd h))
        · exact ag d hdc (.inr h)
/-- behind a row that lays: kept on the pile, or stored -/
theorem lay_end (hlo : ∀ i, bs[i]? = some true → LeftOk rows live Sn i) {i : Nat} {m : MR} {c v : Int} {f f' : Cells} {g : Keeps} (hm : rows[i]? = some m) (hl : ∀ k, m ≠ .label k) (hc : m.lays = some c) (hn : i + 1 ∈ nexts rows i)
    (ag : ∀ s ∈ nexts rows i, ∀ d, m.lays ≠ some d → (live s d ∨ Sn d) → f d = f' d) :
    ∃ (j : Nat) (π : List Int) (f2 : Cells), j ≤ 1 ∧ Rch rows (machineRows rows bs) j ⟨(codeTo rows bs i).length + (loadsOf bs i m).length + (midOf (i : Int) m).length, [v], f', g⟩ [] ⟨(codeTo rows bs (i + 1)).length, π, f2, g⟩ ∧
      Rel rows bs live Sn (i + 1) (f.set c v) π f2 := by
  have len : (codeTo rows bs (i + 1)).length = (codeTo rows bs i).length + (loadsOf bs i m).length + (midOf (i : Int) m).length + (storeOf bs i m).length := by
    rw [code_len rows bs hm, emit_eq hl, List.length_append, List.length_append, List.length_map]
    omega
  by_cases hb : leftAt bs i = true
  · have st : storeOf bs i m = [] := by
      unfold storeOf
      rw [hc]
      exact if_pos hb
    obtain ⟨m1, m2, c1, rest, q1, q2, q3, q4, q5, q6, q7⟩ := hlo i (left_get.mpr hb)
    rw [hm] at q1
    cases q1
    rw [hc] at q2
    cases q2
    refine ⟨0, [v], f', by omega, ?_, .inr ⟨⟨by omega, hb⟩, m2, c, rest, v, q4, q5, q6, q3, q7, by unfold Cells.set; rw [if_pos rfl], rfl, fun d hd h => ?_⟩⟩
    · rw [len, st]
      exact .zero
    · unfold Cells.set
      rw [if_neg hd]
      exact ag (i + 1) hn d (by rw [hc]; exact fun z => hd (Option.some.inj z).symm) h
  · have st : storeOf bs i m = [.store c (i : Int)] := by
      unfold storeOf
      rw [hc]
      exact if_neg hb
    have kst : (machineRows rows bs)[(codeTo rows bs i).length + (loadsOf bs i m).length + (midOf (i : Int) m).length]? = some (.store c (i : Int)) := by
      have := code_at rows bs (t := (loadsOf bs i m).length + (midOf (i : Int) m).length) hm (r := .store c (i : Int)) (by
        rw [emit_eq hl, st, List.getElem?_append_right (by rw [List.length_append, List.length_map]; exact Nat.le_refl _), List.length_append, List.length_map, Nat.sub_self]
        rfl)
      rw [← Nat.add_assoc] at this
      exact this
    refine ⟨1, [], f'.set c v, Nat.le_refl _, ?_, .inl ⟨fun ⟨_, h⟩ => hb h, rfl, fun d h => ?_⟩⟩
    · rw [len, st]
      exact .step (m := .store c (i : Int)) kst rfl (by simp only [kstep, popped]; rfl)
    · unfold Cells.set
      by_cases hd : d = c
      · rw [if_pos hd, if_pos hd]
      · rw [if_neg hd, if_neg hd]
        exact ag (i + 1) hn d (by rw [hc]; exact fun z => hd (Option.some.inj z).symm) h
end
end K48
set_option maxHeartbeats 1000000
set_option linter.all false
/-! plain: both runs tell the same -/
namespace K48
open PySem L2
def EvR (Sn : Int → Prop) : Ev → Ev → Prop
  | none, none => True
  | some f, some f' => ∀ c, Sn c → f c = f' c
  | _, _ => False
section
variable {rows : List MR} {bs : List Bool} {live : Nat → Int → Prop} {Sn : Int → Prop}
theorem code_mid {i : Nat} {m : MR} {r : KR} (hm : rows[i]? = some m) (hl : ∀ k, m ≠ .label k) (hr : midOf (i : Int) m = [r]) :
    (machineRows rows bs)[(codeTo rows bs i).length + (loadsOf bs i m).length]? = some (ledR (spotTo rows bs rows.length) r) := by
  refine code_at rows bs (t := (loadsOf bs i m).length) hm (r := r) ?_
  rw [emit_eq hl, hr, List.append_assoc, List.getElem?_append_right (by rw [List.length_map]; exact Nat.le_refl _), List.length_map, Nat.sub_self]
  rfl
/-- behind a row that lays nothing -/
theorem flat_end (hlo : ∀ i, bs[i]? = some true → LeftOk rows live Sn i) {i : Nat} {m : MR} {f f' : Cells} (hm : rows[i]? = some m) (hl : ∀ k, m ≠ .label k) (hc : m.lays = none) (hn : i + 1 ∈ nexts rows i)
    (ag : ∀ s ∈ nexts rows i, ∀ d, m.lays ≠ some d → (live s d ∨ Sn d) → f d = f' d) :
    (codeTo rows bs (i + 1)).length = (codeTo rows bs i).length + (loadsOf bs i m).length + (midOf (i : Int) m).length ∧ Rel rows bs live Sn (i + 1) f [] f' := by
  have st : storeOf bs i m = [] := by
    unfold storeOf
    rw [hc]
  refine ⟨?_, .inl ⟨fun ⟨_, h⟩ => ?_, rfl, fun d h => ag (i + 1) hn d (by rw [hc]; exact fun z => by cases z) h⟩⟩
  · rw [code_len rows bs hm, emit_eq hl, st, List.append_nil, List.length_append, List.length_map]
    omega
  · obtain ⟨m1, m2, c1, rest, q1, q2, _⟩ := hlo i (left_get.mpr h)
    rw [hm] at q1
    cases q1
    rw [hc] at q2
    cases q2
theorem jump_end (hlo : ∀ i, bs[i]? = some true → LeftOk rows live Sn i) {i p : Nat} {m : MR} {k : Int} {f f' : Cells} (hc : m.lays = none) (hp : rows[p]? = some (.label k)) (hn : p ∈ nexts rows i)
    (ag : ∀ s ∈ nexts rows i, ∀ d, m.lays ≠ some d → (live s d ∨ Sn d) → f d = f' d) : Rel rows bs live Sn p f [] f' :=
  .inl ⟨no_hand hlo hp rfl, rfl, fun d h => ag p hn d (by rw [hc]; exact fun z => by cases z) h⟩
theorem loads_len {i : Nat} {m : MR} (h : m.reads.length ≤ 3) : (loadsOf bs i m).length ≤ 3 := by
  unfold loadsOf
  split
  · rw [List.length_drop]; omega
  · exact h
theorem sim_step {parts : Nat} (hw : Well parts rows) (hcl : ∀ i, i < rows.length → ∀ c, Fi rows live i c → live i c) (hlo : ∀ i, bs[i]? = some true → LeftOk rows live Sn i)
    {s : MS} {m : MR} {out : Out} {π : List Int} {f' : Cells} (hm : rows[s.pc]? = some m) (hb : m ≠ .beg) (hs : mstep rows s m = some out) (R : Rel rows bs live Sn s.pc s.cells π f') :
    match out with
    | .stop evs => ∀ most, 0 ≤ most → ∃ evs', krun rows (machineRows rows bs) 5 most ⟨(codeTo rows bs s.pc).length, π, f', s.keeps⟩ = some evs' ∧ Paired (EvR Sn) evs evs'
    | .next evs s' => ∃ j evs' π2 f2, j ≤ 5 ∧ Rch rows (machineRows rows bs) j ⟨(codeTo rows bs s.pc).length, π, f', s.keeps⟩ evs' ⟨(codeTo rows bs s'.pc).length, π2, f2, s'.keeps⟩ ∧ Paired (EvR Sn) evs evs' ∧ Rel rows bs live Sn s'.pc s'.cells π2 f2 := by
  have hrd := hw.rd m (List.mem_of_getElem? hm)
  have hll := loads_len (bs := bs) (i := s.pc) hrd
  by_cases hlab : ∃ k, m = .label k
  · obtain ⟨k, rfl⟩ := hlab
    cases hs
    have hn : s.pc + 1 ∈ nexts rows s.pc := by unfold nexts; rw [hm]; exact List.mem_singleton.mpr rfl
    have hA : (codeTo rows bs (s.pc + 1)).length = (codeTo rows bs s.pc).length := by rw [code_len rows bs hm]; rfl
    have nh := no_hand hlo hm rfl
    rcases R with ⟨_, rfl, ag⟩ | ⟨h, _⟩
    · refine ⟨0, [], [], f', by omega, ?_, .nil, .inl ⟨fun ⟨_, h⟩ => ?_, rfl, fun d h => ?_⟩⟩
      · show Rch rows _ 0 _ [] ⟨(codeTo rows bs (s.pc + 1)).length, _, _, _⟩
        rw [hA]
        exact .zero
      · obtain ⟨m1, m2, c1, rest, q1, q2, _⟩ := hlo s.pc (left_get.mpr h)
        rw [hm] at q1
        cases q1
        cases q2
      · refine ag d ?_
        rcases h with h | h
        · exact .inl (hcl s.pc (List.getElem?_eq_some_iff.mp hm).1 d ⟨_, hm, .inr ⟨fun z => (by cases z), s.pc + 1, hn, h⟩⟩)
        · exact .inr h
    · exact absurd h nh
  have hl : ∀ k, m ≠ .label k := fun k e => hlab ⟨k, e⟩
  obtain ⟨vs, hv⟩ := allOf_reads hs
  obtain ⟨L, agS, ag⟩ := load_all (g := s.keeps) hcl hm hl R hv
  have none1 : Paired (EvR Sn) [none] [none] := .cons (show EvR Sn none none from trivial) .nil
  have nx1 : (∀ k, m ≠ .go k) → (∀ x, m ≠ .give x) → m ≠ .nothing → s.pc + 1 ∈ nexts rows s.pc := fun a b c => by
    unfold nexts
    rw [hm]
    cases m with
    | go k => exact absurd rfl (a k)
    | give x => exact absurd rfl (b x)
    | nothing => exact absurd rfl c
    | unl x k => exact List.mem_cons_self ..
    | _ => exact List.mem_singleton.mpr rfl
  -- a step of the row's own, then the store
  have laying : ∀ (r : KR) (c v : Int) (g2 : Keeps) (es : List Ev), midOf (s.pc : Int) m = [r] → m.lays = some c → (∀ k, m ≠ .go k) → (∀ x, m ≠ .give x) → m ≠ .nothing → (ledR (spotTo rows bs rows.length) r).isRow = false →
      kstep rows ⟨(codeTo rows bs s.pc).length + (loadsOf bs s.pc m).length, vs, f', s.keeps⟩ (ledR (spotTo rows bs rows.length) r) = some (.next es ⟨(codeTo rows bs s.pc).length + (loadsOf bs s.pc m).length + 1, [v], f', g2⟩) →
      ∃ j π2 f2, j ≤ 5 ∧ Rch rows (machineRows rows bs) j ⟨(codeTo rows bs s.pc).length, π, f', s.keeps⟩ es ⟨(codeTo rows bs (s.pc + 1)).length, π2, f2, g2⟩ ∧ Rel rows bs live Sn (s.pc + 1) (s.cells.set c v) π2 f2 := fun r c v g2 es hmid hc n1 n2 n3 hrow hk => by
    obtain ⟨j, π2, f2, hj, hr, hR⟩ := lay_end (g := g2) (v := v) hlo hm hl hc (nx1 n1 n2 n3) ag
    rw [hmid] at hr
    have s2 : Rch rows (machineRows rows bs) 1 ⟨(codeTo rows bs s.pc).length + (loadsOf bs s.pc m).length, vs, f', s.keeps⟩ es ⟨(codeTo rows bs s.pc).length + (loadsOf bs s.pc m).length + 1, [v], f', g2⟩ := .step (code_mid hm hl hmid) hrow hk
    refine ⟨(loadsOf bs s.pc m).length + 1 + j, π2, f2, by omega, ?_, hR⟩
    · have := (L.trans s2).trans hr
      rw [List.append_nil, List.nil_append] at this
      exact this
  have flat : ∀ (r : KR) (g2 : Keeps) (es : List Ev), midOf (s.pc : Int) m = [r] → m.lays = none → (∀ k, m ≠ .go k) → (∀ x, m ≠ .give x) → m ≠ .nothing → (ledR (spotTo rows bs rows.length) r).isRow = false →
      kstep rows ⟨(codeTo rows bs s.pc).length + (loadsOf bs s.pc m).length, vs, f', s.keeps⟩ (ledR (spotTo rows bs rows.length) r) = some (.next es ⟨(codeTo rows bs s.pc).length + (loadsOf bs s.pc m).length + 1, [], f', g2⟩) →
      ∃ j π2 f2, j ≤ 5 ∧ Rch rows (machineRows rows bs) j ⟨(codeTo rows bs s.pc).length, π, f', s.keeps⟩ es ⟨(codeTo rows bs (s.pc + 1)).length, π2, f2, g2⟩ ∧ Rel rows bs live Sn (s.pc + 1) s.cells π2 f2 := fun r g2 es hmid hc n1 n2 n3 hrow hk => by
    obtain ⟨hA, hR⟩ := flat_end hlo hm hl hc (nx1 n1 n2 n3) ag
    rw [hmid] at hA
    have s2 : Rch rows (machineRows rows bs) 1 ⟨(codeTo rows bs s.pc).length + (loadsOf bs s.pc m).length, vs, f', s.keeps⟩ es ⟨(codeTo rows bs s.pc).length + (loadsOf bs s.pc m).length + 1, [], f', g2⟩ := .step (code_mid hm hl hmid) hrow hk
    refine ⟨(loadsOf bs s.pc m).length + 1, [], f', by omega, ?_, hR⟩
    rw [hA]
    have := L.trans s2
    rw [List.nil_append] at this
    exact this
  have stops : ∀ (r : KR), midOf (s.pc : Int) m = [r] → kstep rows ⟨(codeTo rows bs s.pc).length + (loadsOf bs s.pc m).length, vs, f', s.keeps⟩ (ledR (spotTo rows bs rows.length) r) = some (.stop [none]) →
      ∀ most, 0 ≤ most → ∃ evs', krun rows (machineRows rows bs) 5 most ⟨(codeTo rows bs s.pc).length, π, f', s.keeps⟩ = some evs' ∧ Paired (EvR Sn) [none] evs' := fun r hmid hk most h0 => by
    have k1 := kstop (krows := machineRows rows bs) h0 (code_mid (bs := bs) hm hl hmid) hk
    have k2 := L 1 most [none] h0 k1
    have k3 := krun_more k2 (5 - (1 + (loadsOf bs s.pc m).length))
    rw [show 1 + (loadsOf bs s.pc m).length + (5 - (1 + (loadsOf bs s.pc m).length)) = 5 by omega] at k3
    exact ⟨[none], k3, none1⟩
  cases m with
  | beg => exact absurd rfl hb
  | label k => exact absurd rfl (hl k)
  | nothing =>
    cases hs
    cases hv
    exact stops (.nothing (s.pc : Int)) rfl rfl
  | put c n =>
    cases hs
    cases hv
    obtain ⟨j, π2, f2, h1, h2, h3⟩ := laying (.push n (s.pc : Int)) c n s.keeps [] rfl rfl (fun k e => by cases e) (fun x e => by cases e) (fun e => by cases e) rfl rfl
    exact ⟨j, [], π2, f2, h1, h2, .nil, h3⟩
  | fetch c f k =>
    cases hs
    cases hv
    obtain ⟨j, π2, f2, h1, h2, h3⟩ := laying (.fetch f k (s.pc : Int)) c (kept s.keeps f k) s.keeps [none] rfl rfl (fun k e => by cases e) (fun x e => by cases e) (fun e => by cases e) rfl rfl
    exact ⟨j, [none], π2, f2, h1, h2, none1, h3⟩
  | copy c d =>
    cases e : s.cells d with
    | none => simp only [mstep, e] at hs; cases hs
    | some v =>
      simp only [mstep, e] at hs
      cases hs
      simp only [MR.reads, allOf, e] at hv
      cases hv
      obtain ⟨j, π2, f2, hj, hr, hR⟩ := lay_end (g := s.keeps) (v := v) hlo hm hl rfl (nx1 (fun k e => by cases e) (fun x e => by cases e) (fun e => by cases e)) ag
      exact ⟨_, [], π2, f2, by omega, L.trans hr, .nil, hR⟩
  | say kd c =>
    cases e : s.cells c with
    | none => simp only [mstep, e] at hs; cases hs
    | some v =>
      simp only [mstep, e] at hs
      cases hs
      simp only [MR.reads, allOf, e] at hv
      cases hv
      obtain ⟨j, π2, f2, h1, h2, h3⟩ := flat (.say kd (s.pc : Int)) s.keeps [none] rfl rfl (fun k e => by cases e) (fun x e => by cases e) (fun e => by cases e) rfl rfl
      exact ⟨j, [none], π2, f2, h1, h2, none1, h3⟩
  | lay kd c =>
    cases e : s.cells c with
    | none => simp only [mstep, e] at hs; cases hs
    | some v =>
      simp only [mstep, e] at hs
      cases hs
      simp only [MR.reads, allOf, e] at hv
      cases hv
      obtain ⟨j, π2, f2, h1, h2, h3⟩ := flat (.lay kd (s.pc : Int)) (s.keeps.set "f" kd v) [none] rfl rfl (fun k e => by cases e) (fun x e => by cases e) (fun e => by cases e) rfl rfl
      exact ⟨j, [none], π2, f2, h1, h2, none1, h3⟩
  | give x =>
    cases x with
    | none =>
      cases hs
      cases hv
      exact stops (.give 0 (s.pc : Int)) rfl rfl
    | some c =>
      cases e : s.cells c with
      | none => simp only [mstep, e] at hs; cases hs
      | some v =>
        simp only [mstep, e] at hs
        cases hs
        simp only [MR.reads, allOf, e] at hv
        cases hv
        exact stops (.give 1 (s.pc : Int)) rfl rfl
  | op o c d e0 =>
    cases e : s.cells d with
    | none => simp only [mstep, e] at hs; cases hs
    | some va =>
      cases e2 : s.cells e0 with
      | none => simp only [mstep, e, e2] at hs; cases hs
      | some vb =>
        simp only [MR.reads, allOf, e, e2] at hv
        cases hv
        cases er : reck o va vb with
        | val v =>
          simp only [mstep, e, e2, er] at hs
          cases hs
          obtain ⟨j, π2, f2, h1, h2, h3⟩ := laying (.op o (s.pc : Int)) c v s.keeps [] rfl rfl (fun k e => by cases e) (fun x e => by cases e) (fun e => by cases e) rfl (by
            show kstep rows _ (.op o (s.pc : Int)) = _
            simp only [kstep, popped, List.getLast?, List.dropLast, List.getLast, er]
            rfl)
          exact ⟨j, [], π2, f2, h1, h2, .nil, h3⟩
        | nought =>
          simp only [mstep, e, e2, er] at hs
          cases hs
          exact stops (.op o (s.pc : Int)) rfl (by
            show kstep rows _ (.op o (s.pc : Int)) = _
            simp only [kstep, popped, List.getLast?, List.dropLast, List.getLast, er])
        | great =>
          simp only [mstep, e, e2, er] at hs
          cases hs
          exact stops (.op o (s.pc : Int)) rfl (by
            show kstep rows _ (.op o (s.pc : Int)) = _
            simp only [kstep, popped, List.getLast?, List.dropLast, List.getLast, er])
  | call co f n as =>
    cases e : allOf s.cells as with
    | none => simp only [mstep, e] at hs; cases hs
    | some ws =>
      simp only [mstep, e] at hs
      cases hs
      have hv' : some ws = some vs := by rw [← e]; exact hv
      cases hv'
      have hlen := (allOf_get e).1
      cases co with
      | none =>
        have hk : kstep rows ⟨(codeTo rows bs s.pc).length + (loadsOf bs s.pc (.call none f n as)).length, vs, f', s.keeps⟩ (.call f n (as.length : Int) (s.pc : Int)) =
            some (.next [none] ⟨(codeTo rows bs s.pc).length + (loadsOf bs s.pc (.call none f n as)).length + 1, [], f', s.keeps⟩) := by
          simp only [kstep]
          rw [if_pos ⟨by omega, by rw [Int.toNat_natCast, hlen]; exact Nat.le_refl _, by omega⟩, Int.toNat_natCast, hm]
          simp only [Int.toNat_natCast, hlen, Nat.sub_self, List.take_zero, List.drop_zero, List.nil_append]
        obtain ⟨j, π2, f2, h1, h2, h3⟩ := flat (.call f n (as.length : Int) (s.pc : Int)) s.keeps [none] rfl rfl (fun k e => by cases e) (fun x e => by cases e) (fun e => by cases e) rfl hk
        exact ⟨j, [none], π2, f2, h1, h2, none1, h3⟩
      | some c =>
        have hk : kstep rows ⟨(codeTo rows bs s.pc).length + (loadsOf bs s.pc (.call (some c) f n as)).length, vs, f', s.keeps⟩ (.call f n (as.length : Int) (s.pc : Int)) =
            some (.next [none] ⟨(codeTo rows bs s.pc).length + (loadsOf bs s.pc (.call (some c) f n as)).length + 1, [came f n vs], f', s.keeps⟩) := by
          simp only [kstep]
          rw [if_pos ⟨by omega, by rw [Int.toNat_natCast, hlen]; exact Nat.le_refl _, by omega⟩, Int.toNat_natCast, hm]
          simp only [Int.toNat_natCast, hlen, Nat.sub_self, List.take_zero, List.drop_zero, List.nil_append]
        obtain ⟨j, π2, f2, h1, h2, h3⟩ := laying (.call f n (as.length : Int) (s.pc : Int)) c (came f n vs) s.keeps [none] rfl rfl (fun k e => by cases e) (fun x e => by cases e) (fun e => by cases e) rfl hk
        exact ⟨j, [none], π2, f2, h1, h2, none1, h3⟩
  | go k =>
    cases e : spotOf rows k with
    | none => simp only [mstep, e] at hs; cases hs
    | some p =>
      simp only [mstep, e] at hs
      cases hs
      cases hv
      have hp := (spotOf_iff hw.uniq k p).mp e
      have hsp := spot_eq (bs := bs) hw.uniq hp (List.getElem?_eq_some_iff.mp hp).1
      have hn : p ∈ nexts rows s.pc := by
        unfold nexts
        rw [hm]
        show p ∈ (spotOf rows k).toList
        rw [e]
        exact List.mem_singleton.mpr rfl
      have s2 : Rch rows (machineRows rows bs) 1 ⟨(codeTo rows bs s.pc).length + (loadsOf bs s.pc (.go k)).length, [], f', s.keeps⟩ [] ⟨(codeTo rows bs p).length, [], f', s.keeps⟩ := by
        have hk := code_mid (bs := bs) (r := .jump k (s.pc : Int)) hm hl rfl
        have hr : ledR (spotTo rows bs rows.length) (.jump k (s.pc : Int)) = .jump ((codeTo rows bs p).length : Int) (s.pc : Int) := by
          show KR.jump (((spotTo rows bs rows.length k).getD 0 : Nat) : Int) _ = _
          rw [hsp]
          rfl
        rw [hr] at hk
        exact .step hk rfl (by simp only [kstep]; rw [if_pos (by omega), Int.toNat_natCast])
      exact ⟨_, [], [], f', by omega, L.trans s2, .nil, jump_end hlo rfl hp hn ag⟩
  | unl x k =>
    cases e1 : s.cells x with
    | none => simp only [mstep, e1] at hs; cases hs
    | some v =>
      cases e : spotOf rows k with
      | none => simp only [mstep, e1, e] at hs; cases hs
      | some p =>
        simp only [mstep, e1, e] at hs
        cases hs
        simp only [MR.reads, allOf, e1] at hv
        cases hv
        have hp := (spotOf_iff hw.uniq k p).mp e
        have hsp := spot_eq (bs := bs) hw.uniq hp (List.getElem?_eq_some_iff.mp hp).1
        have hn : p ∈ nexts rows s.pc := by
          unfold nexts
          rw [hm]
          show p ∈ (s.pc + 1) :: (spotOf rows k).toList
          rw [e]
          exact List.mem_cons_of_mem _ (List.mem_singleton.mpr rfl)
        have hk := code_mid (bs := bs) (r := .unl k (s.pc : Int)) hm hl rfl
        have hr : ledR (spotTo rows bs rows.length) (.unl k (s.pc : Int)) = .unl ((codeTo rows bs p).length : Int) (s.pc : Int) := by
          show KR.unl (((spotTo rows bs rows.length k).getD 0 : Nat) : Int) _ = _
          rw [hsp]
          rfl
        rw [hr] at hk
        by_cases hz : v = 0
        · have s2 : Rch rows (machineRows rows bs) 1 ⟨(codeTo rows bs s.pc).length + (loadsOf bs s.pc (.unl x k)).length, [v], f', s.keeps⟩ [] ⟨(codeTo rows bs p).length, [], f', s.keeps⟩ :=
            .step hk rfl (by simp only [kstep, popped, List.getLast?, List.dropLast, List.getLast]; rw [if_pos (by omega), if_pos hz, Int.toNat_natCast])
          dsimp only
          rw [if_pos hz]
          exact ⟨_, [], [], f', by omega, L.trans s2, .nil, jump_end hlo rfl hp hn ag⟩
        · obtain ⟨hA, hR⟩ := flat_end hlo hm hl rfl (nx1 (fun k e => by cases e) (fun x e => by cases e) (fun e => by cases e)) ag
          have s2 : Rch rows (machineRows rows bs) 1 ⟨(codeTo rows bs s.pc).length + (loadsOf bs s.pc (.unl x k)).length, [v], f', s.keeps⟩ [] ⟨(codeTo rows bs s.pc).length + (loadsOf bs s.pc (.unl x k)).length + 1, [], f', s.keeps⟩ :=
            .step hk rfl (by simp only [kstep, popped, List.getLast?, List.dropLast, List.getLast]; rw [if_pos (by omega), if_neg hz])
          dsimp only
          rw [if_neg hz]
          refine ⟨(loadsOf bs s.pc (.unl x k)).length + 1, [], [], f', by omega, ?_, .nil, hR⟩
          rw [hA]
          exact L.trans s2
end
end K48
set_option maxHeartbeats 1000000
set_option linter.all false
/-! plain: the law of both runs -/
namespace K48
open PySem L2
section
variable {rows : List MR} {bs : List Bool} {live : Nat → Int → Prop} {Sn : Int → Prop}
theorem sim {parts : Nat} (hw : Well parts rows) (hcl : ∀ i, i < rows.length → ∀ c, Fi rows live i c → live i c) (hlo : ∀ i, bs[i]? = some true → LeftOk rows live Sn i) :
    ∀ (n : Nat) (most : Int) (s : MS) (π : List Int) (f' : Cells) (evs : List Ev), mrun rows n most s = some evs → Rel rows bs live Sn s.pc s.cells π f' →
      ∃ evs', krun rows (machineRows rows bs) (5 * n) most ⟨(codeTo rows bs s.pc).length, π, f', s.keeps⟩ = some evs' ∧ Paired (EvR Sn) evs evs'
  | 0, _, _, _, _, _, h, _ => by cases h
  | n + 1, most, s, π, f', evs, h, R => by
    by_cases hneg : most < 0
    · have e : mrun rows (n + 1) most s = some [] := if_pos hneg
      rw [e] at h
      cases h
      exact ⟨[], by rw [show 5 * (n + 1) = (5 * n + 4) + 1 by omega]; exact if_pos hneg, .nil⟩
    · have h0 : 0 ≤ most := by omega
      have e : mrun rows (n + 1) most s = match rows[s.pc]? with
          | none => none
          | some m => match mstep rows s m with
            | none => none
            | some (.stop evs) => some evs
            | some (.next evs s') => match mrun rows n (if m = .beg then most - 1 else most) s' with
              | none => none
              | some rest => some (evs ++ rest) := if_neg hneg
      rw [e] at h
      cases hm : rows[s.pc]? with
      | none => rw [hm] at h; cases h
      | some m =>
        rw [hm] at h
        dsimp only at h
        cases hs : mstep rows s m with
        | none => rw [hs] at h; cases h
        | some out =>
          rw [hs] at h
          by_cases hb : m = .beg
          · subst hb
            cases hs
            dsimp only at h
            rw [if_pos rfl] at h
            have nh := no_hand hlo hm rfl
            rcases R with ⟨_, rfl, ag⟩ | ⟨hh, _⟩
            · cases hr : mrun rows n (most - 1) { s with pc := s.pc + 1 } with
              | none => rw [hr] at h; cases h
              | some rest =>
                rw [hr] at h
                cases h
                have hl : ∀ k, MR.beg ≠ .label k := fun k e => by cases e
                have hn : s.pc + 1 ∈ nexts rows s.pc := by unfold nexts; rw [hm]; exact List.mem_singleton.mpr rfl
                have ag2 : ∀ t ∈ nexts rows s.pc, ∀ d, MR.beg.lays ≠ some d → (live t d ∨ Sn d) → s.cells d = f' d := fun t ht d hd q => by
                  refine ag d ?_
                  rcases q with q | q
                  · exact .inl (hcl s.pc (List.getElem?_eq_some_iff.mp hm).1 d ⟨_, hm, .inr ⟨hd, t, ht, q⟩⟩)
                  · exact .inr q
                obtain ⟨hA, hR⟩ := flat_end (f := s.cells) (f' := f') hlo hm hl rfl hn ag2
                have hlz : loadsOf bs s.pc MR.beg = [] := by
                  unfold loadsOf
                  split <;> rfl
                have hk := code_mid (bs := bs) (r := .row (s.pc : Int)) hm hl rfl
                rw [hlz] at hA hk
                obtain ⟨rest', h1, h2⟩ := sim hw hcl hlo n (most - 1) { s with pc := s.pc + 1 } [] f' rest hr hR
                refine ⟨some f' :: rest', ?_, .cons (fun c hc => ag c (.inr hc)) h2⟩
                have h3 : krun rows (machineRows rows bs) (5 * n + 1) most ⟨(codeTo rows bs s.pc).length, [], f', s.keeps⟩ = some (some f' :: rest') := by
                  show (if most < 0 then _ else _) = _
                  rw [if_neg hneg]
                  have hk' : (machineRows rows bs)[(codeTo rows bs s.pc).length]? = some (.row (s.pc : Int)) := hk
                  show (match (machineRows rows bs)[(codeTo rows bs s.pc).length]? with | none => none | some m => _) = _
                  rw [hk']
                  have hA' : (codeTo rows bs (s.pc + 1)).length = (codeTo rows bs s.pc).length + 1 := hA
                  rw [hA'] at h1
                  show (match krun rows (machineRows rows bs) (5 * n) (most - 1) ⟨(codeTo rows bs s.pc).length + 1, [], f', s.keeps⟩ with
                    | none => none
                    | some rest => some ([some f'] ++ rest)) = _
                  rw [h1]
                  rfl
                have h4 := krun_more h3 4
                rw [show 5 * n + 1 + 4 = 5 * (n + 1) by omega] at h4
                exact h4
            · exact absurd hh nh
          · have st := sim_step hw hcl hlo hm hb hs R
            cases out with
            | stop es =>
              dsimp only at h st
              cases h
              obtain ⟨evs', h1, h2⟩ := st most h0
              have h3 := krun_more h1 (5 * n)
              rw [show 5 + 5 * n = 5 * (n + 1) by omega] at h3
              exact ⟨evs', h3, h2⟩
            | next es s' =>
              dsimp only at h st
              rw [if_neg hb] at h
              obtain ⟨j, evs1, π2, f2, hj, hr, hp, hR⟩ := st
              cases hm2 : mrun rows n most s' with
              | none => rw [hm2] at h; cases h
              | some rest =>
                rw [hm2] at h
                cases h
                obtain ⟨rest', h1, h2⟩ := sim hw hcl hlo n most s' π2 f2 rest hm2 hR
                have h3 := krun_more (hr (5 * n) most rest' h0 h1) (5 - j)
                rw [show 5 * n + j + (5 - j) = 5 * (n + 1) by omega] at h3
                exact ⟨evs1 ++ rest', h3, Paired.app hp h2⟩
theorem kr_ok {parts : Nat} (hw : Well parts rows) : ∀ r ∈ machineRows rows bs, KrOk r ∧ 0 ≤ r.k ∧ r.k.toNat < rows.length := fun r hr => by
  unfold machineRows at hr
  obtain ⟨r0, hr0, rfl⟩ := List.mem_map.mp hr
  obtain ⟨i, m, hi, hm, he⟩ := mem_code hr0
  have hok := hw.ok m (List.mem_of_getElem? hm)
  have led : ∀ (s : Int → Option Nat) (r : KR), r.k = (i : Int) → KrOk r → KrOk (ledR s r) ∧ 0 ≤ (ledR s r).k ∧ (ledR s r).k.toNat < rows.length := fun s r hk h => by
    have e : (ledR s r).k = r.k := by cases r <;> rfl
    rw [e, hk]
    refine ⟨?_, by omega, by omega⟩
    cases r <;> first | exact h | trivial
  rcases mem_emit he with ⟨c, _, rfl⟩ | h | h
  · exact led _ _ rfl trivial
  · cases m with
    | call co f n as =>
      rw [List.mem_singleton.mp (show r0 ∈ [_] from h)]
      exact led _ _ rfl ⟨hok.1, hok.2.1⟩
    | beg => rw [List.mem_singleton.mp (show r0 ∈ [_] from h)]; exact led _ _ rfl trivial
    | nothing => rw [List.mem_singleton.mp (show r0 ∈ [_] from h)]; exact led _ _ rfl trivial
    | label k => cases h
    | go k => rw [List.mem_singleton.mp (show r0 ∈ [_] from h)]; exact led _ _ rfl trivial
    | unl x k => rw [List.mem_singleton.mp (show r0 ∈ [_] from h)]; exact led _ _ rfl trivial
    | put c n => rw [List.mem_singleton.mp (show r0 ∈ [_] from h)]; exact led _ _ rfl hok
    | copy c d => cases h
    | op o c d e => rw [List.mem_singleton.mp (show r0 ∈ [_] from h)]; exact led _ _ rfl trivial
    | say kd c => rw [List.mem_singleton.mp (show r0 ∈ [_] from h)]; exact led _ _ rfl hok
    | lay n c => rw [List.mem_singleton.mp (show r0 ∈ [_] from h)]; exact led _ _ rfl hok
    | give c => rw [List.mem_singleton.mp (show r0 ∈ [_] from h)]; exact led _ _ rfl trivial
    | fetch c f n => rw [List.mem_singleton.mp (show r0 ∈ [_] from h)]; exact led _ _ rfl hok
  · obtain ⟨c, _, rfl⟩ := mem_store h
    exact led _ _ rfl trivial
end
/-- all that the law's walk asks of a made def -/
theorem Md.Ok.fit {M : Md} (h : M.Ok) : M.Fit := by
  have hw := h.wf.well
  exact ⟨h.len, hw.uniq, hw.tgt, hw.nx, hw.rd, h.kl, h.nl⟩
theorem both_runs {M : Md} (h : M.Ok) (ps : List Int) (hp : ps.length = M.kinds.length) : ∃ evs, mrun M.rows 50000 60 ⟨0, partsC ps ps.length, fun _ _ => none⟩ = some evs ∧
    ∀ (bs : List Bool) (live : Nat → Int → Prop), (∀ i, i < M.rows.length → ∀ c, Fi M.rows live i c → live i c) → (∀ i, bs[i]? = some true → LeftOk M.rows live (Seen M) i) →
      ∃ evs', krun M.rows (machineRows M.rows bs) 250000 60 ⟨0, [], partsC ps ps.length, fun _ _ => none⟩ = some evs' ∧ Paired (EvR (Seen M)) evs evs' := by
  have hw := h.wf.well
  obtain ⟨evs, he⟩ := hw.runs h.len ps hp
  refine ⟨evs, he, fun bs live hcl hlo => ?_⟩
  exact sim hw hcl hlo 50000 60 ⟨0, partsC ps ps.length, fun _ _ => none⟩ [] (partsC ps ps.length) evs he (.inl ⟨fun z => Nat.lt_irrefl 0 z.1, rfl, fun d _ => rfl⟩)
end K48
set_option maxHeartbeats 2000000
set_option linter.all false
/-! law -/
namespace K48
open PySem L2
theorem RowAt.same2 {K : PySem.W.Frag} {H H' : Hp} {r : Addr} (h : RowAt K H r) (s : Same H H') : RowAt K H' r := by
  obtain ⟨sc, ns, p, sd, bg, h1, h2, h3⟩ := h
  exact ⟨sc, ns, p, sd, bg, s _ _ h1, h2.mono fun b o u e => s _ _ e, h3⟩
theorem Kept.tups {r : Addr} {H H' : Hp} {xs : List V} (k : Kept r H H') (hr : H r = some (.lst xs)) : TupStay H H' := fun b ys e => k b _ (ne_of e hr (by intro z; cases z)) e
theorem MadeAt.mono {H H' : Hp} {md : Addr} {M : Md} (h : MadeAt H md M) (s : TupStay H H') : MadeAt H' md M := by
  obtain ⟨kt, rt, nt, vs, ns, hM⟩ := h
  exact ⟨kt, rt, nt, vs, ns, hM.mono s⟩
theorem paired_comp {α β γ : Type} {F : α → β → Prop} {G : β → γ → Prop} : ∀ {xs : List α} {ys : List β} {zs : List γ}, Paired F xs ys → Paired G ys zs → Paired (fun x z => ∃ y, F x y ∧ G y z) xs zs
  | _, _, _, .nil, .nil => .nil
  | _, _, _, .cons h t, .cons g u => .cons ⟨_, h, g⟩ (paired_comp t u)
section
variable {P : Program} {w : World} {K : PySem.W.Frag} {mg : Str → Option Value} {base : Heap} {aO aL : Addr}
def spLaw (K : PySem.W.Frag) : Sp := fun vs H Q _ => ∃ (a : Addr) (ns : List Int), vs = [.ref a] ∧ FrzL K H a (ns.map V.int) ∧ ns.length ≤ 63 ∧ ∀ H', Q (.bl true) H'
theorem scLaw : FnScope ["_law_script", "_law_row", "_law_turn", "_law_made_here", "_law_rows", "_law_cells", "_law_parts", "_law_due", "_law_found", "_law_one", "_law_other", "_law_name", "_law_cell"] ["_law_script"] (defScope (topS 29)) := ⟨rfl, rfl, rfl, by decide +kernel, rfl, by decide +kernel, by decide +kernel⟩
theorem fn_law {f : Addr} {fd : FuncData} (F : Fun K "law" "law" (topS 29) f fd) (T : Blt K mg aO aL)
    (D_made : Dfn P w K mg base "_law_made" 10 ["_law_row", "_law_deep"] (spMade K))
    (D_machine_of : Dfn P w K mg base "machine_of" 6 ["made"] spMachineOf)
    (D_parts_of : Dfn P w K mg base "_law_parts_of" 2 ["_law_row", "_law_made_here"] (spPartsOf K))
    (D_middle : Dfn P w K mg base "_law_middle" 3 ["_law_made_here", "_law_parts", "_law_most"] (spMiddle K))
    (D_machine : Dfn P w K mg base "_law_machine" 3 ["_law_rows", "_law_made_here", "_law_parts", "_law_most"] (spMachine K)) :
    FnOk P w K mg base CX0 11 f fd ["_law_script"] (spLaw K) := by
  have sc := scLaw
  refine F.ok sc (fun vs H Q E h => ?_) (fun cdv A outer s0 H vs Q E hr h => ?_)
  · obtain ⟨a, ns, rfl, _⟩ := h
    rfl
  · obtain ⟨a, ns, rfl, hS, hlen, k⟩ := h
    have hu := hu_of hr
    refine ⟨_,
(pss_cons (ps_set (i := 1) sc.nd rfl (Or.inl rfl) (pe_lst (pa_cons (pv 0) (pa_cons pe_int (pa_cons pe_int (pa_cons pe_int pa_nil))))))
(pss_cons (ps_for PassesOwn.never rfl (pi_range1 (by rfl) T.range (pa_cons pe_int pa_nil)) (pg_name (i := 2) sc.nd rfl (Or.inl rfl))
(pss_cons (ps_set (i := 3) sc.nd rfl (Or.inl rfl) (pe_callD D_made (hr.mono (by omega)) (by rfl) (pa_cons (pv 1) (pa_cons pe_int pa_nil))))
(pss_cons (ps_set (i := 4) sc.nd rfl (Or.inl rfl) (pe_callD D_machine_of (hr.mono (by omega)) (by rfl) (pa_cons (pv 3) pa_nil)))
(pss_cons (ps_set (i := 5) sc.nd rfl (Or.inl rfl) (pe_op op_cat (pe_listRg rfl (by rfl) T.list (prg_1 (by rfl) T.range (pe_callB (call_len) (by rfl) T.len PySem.boot_len (pa_cons (pe_ix ix_tup (pv 3) pe_int (fun _ _ => rfl)) pa_nil)))) (pe_lc (own := [("_law_name", 11)]) rfl sc.nd (pi_tup (pe_ix ix_tup (pv 3) pe_int (fun _ _ => rfl))) (blkOk_by (own := [("_law_name", 11)]) (N := ["_law_script", "_law_row", "_law_turn", "_law_made_here", "_law_rows", "_law_cells", "_law_parts", "_law_due", "_law_found", "_law_one", "_law_other", "_law_name", "_law_cell"]) (sc := defScope (topS 29)) (by decide +kernel)) (fun _ _ _ _ _ => (pg_name (i := 11) sc.nd rfl (Or.inl rfl))) (fun _ _ _ _ _ => pts_nil) (fun _ _ _ _ _ => (pe_ix (r := rIxT K) ix_tup (pv 11) pe_int (fun _ _ => rfl))))))
(pss_cons (ps_set (i := 6) sc.nd rfl (Or.inl rfl) (pe_callD D_parts_of (hr.mono (by omega)) (by rfl) (pa_cons (pv 1) (pa_cons (pv 3) pa_nil))))
(pss_cons (ps_par rfl sc.nd (i := 7) (j := 8) rfl rfl (by decide) rfl rfl (pa_cons (pe_callD D_middle (hr.mono (by omega)) (by rfl) (pa_cons (pv 3) (pa_cons (pv 6) (pa_cons pe_int pa_nil)))) (pa_cons (pe_callD D_machine (hr.mono (by omega)) (by rfl) (pa_cons (pv 4) (pa_cons (pv 3) (pa_cons (pv 6) (pa_cons pe_int pa_nil))))) pa_nil)) (by rfl))
(pss_cons (ps_if (PW.pt (pw_or (pt_cmpR op_isN (pv 8) pe_non (nomark _)) (pw_or1 (pt_cmpR op_ne (pe_callB (call_len) (by rfl) T.len PySem.boot_len (pa_cons (pv 8) pa_nil)) (pe_callB (call_len) (by rfl) T.len PySem.boot_len (pa_cons (pv 7) pa_nil)) (nomark _)))))
(pss_one (ps_ret pe_bl))
pss_nil)
(pss_one (ps_for PassesOwn.never rfl (pi_zip (by rfl) T.zip (pa_cons (pv 7) (pa_cons (pv 8) pa_nil))) (pg_tup rfl (pgs_cons (pg_name (i := 9) sc.nd rfl (Or.inr rfl)) (pgs_cons (pg_name (i := 10) sc.nd rfl (Or.inr rfl)) pgs_nil)))
(pss_one (ps_if (pt_cmpR op_eq (pe_ix ix_tup (pv 9) pe_int (fun _ _ => rfl)) pe_str (nomark _))
(pss_one (ps_if (pt_cmpR (op_neNil hr.units0) (pe_lc (own := [("_law_cell", 12)]) rfl sc.nd (pi_list (pv 5)) (blkOk_by (own := [("_law_cell", 12)]) (N := ["_law_script", "_law_row", "_law_turn", "_law_made_here", "_law_rows", "_law_cells", "_law_parts", "_law_due", "_law_found", "_law_one", "_law_other", "_law_name", "_law_cell"]) (sc := defScope (topS 29)) (by decide +kernel)) (fun _ _ _ _ _ => (pg_name (i := 12) sc.nd rfl (Or.inl rfl))) (fun _ _ _ _ _ => (pts_one (pt_cmpR op_ne (pe_dget2 hu (pe_ix (r := rIxT K) ix_tup (pv 9) pe_int (fun _ _ => rfl)) (pv 12) pe_int ⟨rfl, rfl, rfl, rfl⟩) (pe_dget2 hu (pe_ix (r := rIxT K) ix_tup (pv 10) pe_int (fun _ _ => rfl)) (pv 12) pe_int ⟨rfl, rfl, rfl, rfl⟩) (nomark _)))) (fun _ _ _ _ _ => (pv 12))) (pe_lst pa_nil) (nomark _))
(pss_one (ps_ret pe_bl))
pss_nil))
pss_nil)))))))))))
(pss_one (ps_ret pe_bl))))
    , ?_⟩
    refine ⟨_, rfl, by show 4 ≤ sizeLine; decide, fun r hr0 => ?_⟩
    have E1 := same_new (o := .lst [.ref a, .int 0, .int 0, .int 0]) hr0
    have RA : RowAt K (upd H r (.lst [.ref a, .int 0, .int 0, .int 0])) r := ⟨a, ns, 0, 0, 0, upd_same, hS.mono fun b o u e => E1 _ _ e, hlen, Int.le_refl _, ⟨Int.le_refl _, by decide⟩, Int.le_refl _⟩
    generalize upd H r (.lst [.ref a, .int 0, .int 0, .int 0]) = H1 at E1 RA ⊢
    refine ⟨_, rfl, by decide, by decide, ?_⟩
    refine for_range (lo := 0) (fun i σ' H' => ∃ (x2 x3 x4 x5 x6 x7 x8 x9 x10 x11 x12 : Option V), σ' = [some (.ref a), some (.ref r), x2, x3, x4, x5, x6, x7, x8, x9, x10, x11, x12] ∧ RowAt K H' r) ?_ ?_ ?_
    · exact ⟨_, _, _, _, _, _, _, _, _, _, _, rfl, RA⟩
    · rintro i σ' H2 hi ⟨x2, x3, x4, x5, x6, x7, x8, x9, x10, x11, x12, rfl, RA2⟩
      dsimp only [gName]
      refine ⟨_, rfl, r, 2, rfl, rfl, RA2, fun md M H3 RA3 K3 hMd hOk => ?_⟩
      have hfit := hOk.fit
      refine ⟨_, rfl, md, M, rfl, hMd, hfit, fun ra H4 kvs bs live S4 hra hkr hcl hlo => ?_⟩
      have RA4 := RA3.same2 S4
      have hMd4 := hMd.mono fun b ys e => S4 _ _ e
      have nrr : ra ≠ r := by
        rintro rfl
        obtain ⟨sc, ns2, p, sd, bg, h1, _⟩ := RA4
        rw [hra] at h1
        cases h1
        obtain ⟨q, h2, b, h3, _⟩ := paired_get hkr (i := 1) (a := .int p) rfl
        cases h3
      obtain ⟨kt, rt, nt, vs0, nsm, hM⟩ := hMd4
      have hnl := hfit.nl
      have hkl := hfit.kl
      have hnm : nsm.length = M.named.length := hM.names.length
      refine ⟨_, rfl, _, _, _, _, rfl, rfl, SqT.of hM.top, rfl, _, M.kinds.length, rfl, .inr ⟨_, SqT.of hM.kinds, (List.length_map _).symm⟩, _, rfl, RgOk.of_le (by omega) (by omega) (by omega) (by omega), fun la hla => ?_⟩
      have E5 := same_new (o := .lst (rgV 0 (M.kinds.length : Int))) hla
      have hla5 := @upd_same H4 la (.lst (rgV 0 (M.kinds.length : Int)))
      generalize upd H4 la (.lst (rgV 0 (M.kinds.length : Int))) = H5 at E5 hla5 ⊢
      refine ⟨_, rfl, _, _, _, _, rfl, rfl, SqT.of (E5 _ _ hM.top), rfl, nt, rfl, ⟨_, SqT.of (E5 _ _ hM.nt)⟩, fun D hD => ?_⟩
      refine lc_tup (K := K) (a := nt) (xs := nsm) (fun j H' => H' D = some (.lst ((M.named.take j).map V.int)) ∧ Same H5 H') ?_ ?_ ?_ ?_
      · exact ⟨upd_same, same_new hD⟩
      · rintro j H' _ ⟨_, S⟩
        exact SqT.of (S _ _ (E5 _ _ hM.nt))
      · rintro j x H6 hx ⟨hD6, S6⟩
        obtain ⟨c, hc, an, z, rfl, ha⟩ := paired_get hM.names hx
        have hj := (List.getElem?_eq_some_iff.mp hc).1
        refine ⟨rfl, _, rfl, _, _, _, _, rfl, rfl, SqT.of (S6 _ _ (E5 _ _ ha)), rfl, _, hD6, by rw [List.length_map, List.length_take]; exact szl (by omega), ?_, fun b o e => ?_⟩
        · rw [upd_same, List.take_succ, hc, List.map_append]
          rfl
        · rw [upd_ne (ne_of_none e hD)]
          exact S6 _ _ e
      rintro H6 ⟨hD6, S6⟩
      rw [hnm, List.take_length] at hD6
      have S46 := E5.trans S6
      refine ⟨la, D, _, _, rfl, rfl, S6 _ _ hla5, hD6, by rw [List.length_map]; exact sz (by unfold rgV; simp; omega), fun cl hcl7 => ?_⟩
      have E7 := same_new (o := .lst (rgV 0 (M.kinds.length : Int) ++ M.named.map V.int)) hcl7
      have hcl8 := @upd_same H6 cl (.lst (rgV 0 (M.kinds.length : Int) ++ M.named.map V.int))
      have S47 := S46.trans E7
      generalize upd H6 cl (.lst (rgV 0 (M.kinds.length : Int) ++ M.named.map V.int)) = H7 at E7 hcl8 S47 ⊢
      have hMd7 : MadeAt H7 md M := ⟨kt, rt, nt, vs0, nsm, hM.mono fun b ys e => S47 _ _ e⟩
      have RA7 := RA4.same2 S47
      have ncl : cl ≠ r := by
        obtain ⟨sc, ns2, p, sd, bg, h1, _⟩ := RA4
        exact (ne_of_none (S46 _ _ h1) hcl7).symm
      refine ⟨_, rfl, _, rfl, r, md, M, rfl, RA7, hMd7, hkl, fun pl ps H8 hps hbps RA8 K8 hpl8 npr => ?_⟩
      have tst : TupStay H7 H8 := by
        obtain ⟨sc, ns2, p, sd, bg, h1, _⟩ := RA7
        exact K8.tups h1
      have hMd8 := hMd7.mono tst
      have hra8 : H8 ra = some (.lst kvs) := K8 _ _ nrr (S47 _ _ hra)
      have hkr8 : Paired (KRowV H8) kvs (machineRows M.rows bs) := krows_mono tst (Paired.mapP hkr fun v q h => krow_same S47 h)
      have hcl9 : H8 cl = some (.lst (rgV 0 (M.kinds.length : Int) ++ M.named.map V.int)) := K8 _ _ ncl hcl8
      obtain ⟨evs, hm, hmac⟩ := both_runs hOk ps hps
      obtain ⟨evs2, hk2, hev⟩ := hmac bs live hcl hlo
      have hw := hOk.wf.well
      refine ⟨_, rfl, _, rfl, md, pl, M, ps, 60, 50000, evs, rfl, hMd8, hpl8, by omega, hbps, hw.uniq, hw.ok, hfit.len, hm, by decide, fun fl vs1 H9 S9 hfl9 hpr9 => ?_⟩
      refine ⟨_, rfl, _, rfl, _, rfl, ra, md, pl, kvs, machineRows M.rows bs, M, ps, 60, 250000, evs2, rfl, S9 _ _ hra8, Paired.mapP hkr8 (fun v q h => krow_same S9 h), kr_ok hw, hMd8.mono fun b ys e => S9 _ _ e, S9 _ _ hpl8, by omega, hbps, hw.ok, hk2, by decide, fun f2 vs2 H10 S10 hf10 hpr10 => ?_⟩
      have hfl10 := S10 _ _ hfl9
      have hpr9' := Paired.mapP hpr9 fun v e h => h.same S10
      have hcl10 := S10 _ _ (S9 _ _ hcl9)
      have RA10 := (RA8.same2 S9).same2 S10
      have l1 := hpr9.length
      have l2 := hpr10.length
      have l3 := hev.length
      refine ⟨_, _, rfl, ?_⟩
      refine ⟨_, rfl, rfl, _, rfl, iF (by rfl) ⟨_, rfl, _, vs2.length, rfl, .inl ⟨_, SqL.of hf10, rfl⟩, _, rfl, _, vs1.length, rfl, .inl ⟨_, SqL.of hfl10, rfl⟩, rfl, _, rfl, iF (by simp; omega) ?_⟩⟩
      refine ⟨_, rfl, _, rfl, fl, f2, vs1, vs2, rfl, SqL.of hfl10, SqL.of hf10, ?_⟩
      refine for_it (walk_zip (xs := vs1) (ys := vs2) (n := vs1.length) (by omega)) (fun j σ' H' => ∃ (x2 x9 x10 x11 x12 : Option V), σ' = [some (.ref a), some (.ref r), x2, some (.ref md), some (.ref ra), some (.ref cl), some (.ref pl), some (.ref fl), some (.ref f2), x9, x10, x11, x12] ∧ Same H10 H') ?_ (fun j σ' H' _ q => ?_) ?_ ?_
      · exact ⟨_, _, _, _, _, rfl, fun _ _ e => e⟩
      · obtain ⟨_, _, _, _, _, _, S⟩ := q
        exact ⟨SqL.of (S _ _ hfl10), SqL.of (S _ _ hf10)⟩
      · rintro j x σ' H11 H12 hj ⟨z2, z9, z10, z11, z12, rfl, S11⟩ ⟨t, y1, y2, rfl, ht, rfl, e1, e2⟩
        dsimp only at e1 e2
        obtain ⟨ev, h1, hb1⟩ := paired_get hpr9' e1
        obtain ⟨ev2, h2, hbr⟩ := paired_get hev h1
        obtain ⟨y2', h3, hb2⟩ := paired_at hpr10 h2
        rw [e2] at h3
        cases h3
        have Et := same_new (o := .tup [y1, y2]) ht
        have S12 := S11.trans Et
        obtain ⟨a1, wd1, k1, c1, r1, rfl, ha1, hc1⟩ := hb1
        obtain ⟨a2, wd2, k2, c2, r2, rfl, ha2, hc2⟩ := hb2
        refine ⟨_, _, rfl, SqT.of upd_same, rfl, _, _, rfl, _, _, rfl, rfl, ?_⟩
        generalize upd H11 t (.tup [.ref a1, .ref a2]) = H13 at Et S12 ⊢
        refine ⟨_, rfl, _, _, _, _, rfl, rfl, SqT.of (S12 _ _ ha1), (atI_nat (j := 0) rfl), rfl, _, rfl, iB (fun hw1 => ?_) (fun _ => ⟨_, _, _, _, _, rfl, S12⟩)⟩
        cases ev with
        | none => exact absurd (by simpa using hw1) hc1
        | some g1 =>
          cases ev2 with
          | none => exact hbr.elim
          | some g2 =>
            obtain ⟨_, d1, B1, rfl, hd1⟩ := hc1
            obtain ⟨_, d2, B2, rfl, hd2⟩ := hc2
            have hd1' := hd1.kp (W := []) (Kp.same S12) (by simp)
            have hd2' := hd2.kp (W := []) (Kp.same S12) (by simp)
            refine ⟨_, rfl, cl, rfl, ⟨_, SqL.of (S12 _ _ hcl10)⟩, fun D2 hD2 => ?_⟩
            refine lc_list (K := K) (a := cl) (xs := rgV 0 (M.kinds.length : Int) ++ M.named.map V.int) (fun u H' => H' D2 = some (.lst []) ∧ Same H13 H') ?_ ?_ ?_ ?_
            · exact ⟨upd_same, same_new hD2⟩
            · rintro u H' _ ⟨_, S⟩
              exact SqL.of (S _ _ (S12 _ _ hcl10))
            · rintro u x H14 hx ⟨hD14, S14⟩
              obtain ⟨c, rfl, hseen⟩ : ∃ c, x = .int c ∧ Seen M c := by
                have hmem := List.mem_of_getElem? hx
                rcases List.mem_append.mp hmem with h | h
                · rw [rgV_map] at h
                  obtain ⟨c, hc, rfl⟩ := List.mem_map.mp h
                  refine ⟨c, rfl, .inr ?_⟩
                  unfold rgI at hc
                  obtain ⟨q, hq, rfl⟩ := List.mem_map.mp hc
                  rw [List.mem_range] at hq
                  omega
                · obtain ⟨c, hc, rfl⟩ := List.mem_map.mp h
                  exact ⟨c, rfl, .inl hc⟩
              have hg : g1 c = g2 c := hbr c hseen
              have q1 := hd1'.kp (W := []) (Kp.same S14) (by simp)
              have q2 := hd2'.kp (W := []) (Kp.same S14) (by simp)
              have get : ∀ {d : Addr} {g : Cells} {B : Nat}, CellsAt H14 d g B → DGet H14 d (.int c) ((g c).map V.int) := fun {d g B} h => by
                obtain ⟨kvs, u1, _, u3⟩ := h
                exact .inl ⟨kvs, .inl c, .inl u1, rfl, (u3 c).symm⟩
              refine ⟨rfl, _, rfl, _, _, _, _, rfl, rfl, SqT.of (S14 _ _ (S12 _ _ ha1)), (atI_nat (j := 2) rfl), d1, rfl, q1.isD, _, rfl, _, get q1, _, rfl, _, _, _, _, rfl, rfl, SqT.of (S14 _ _ (S12 _ _ ha2)), (atI_nat (j := 2) rfl), d2, rfl, q2.isD, _, rfl, _, get q2, ?_⟩
              rw [hg]
              refine ⟨by cases g2 c <;> rfl, _, rfl, iF (by simp) ⟨hD14, S14⟩⟩
            rintro H14 ⟨hD14, S14⟩
            refine ⟨Nat.zero_le _, fun q hq => ⟨D2, q, [], rfl, rfl, ne_of_none hD14 hq, SqL.of (same_new hq _ _ hD14), SqL.of upd_same, _, rfl, iF rfl ?_⟩⟩
            exact ⟨_, _, _, _, _, rfl, S12.trans (S14.trans (same_new hq))⟩
      · rintro σ' H11 ⟨z2, z9, z10, z11, z12, rfl, S11⟩
        exact ⟨_, _, _, _, _, _, _, _, _, _, _, rfl, RA10.same2 S11⟩
    · rintro σ' H2 ⟨x2, x3, x4, x5, x6, x7, x8, x9, x10, x11, x12, rfl, RA2⟩
      exact k H2
end
end K48
set_option maxHeartbeats 2000000
set_option linter.all false
/-! all defs together -/
namespace K48
open PySem L2
section
variable {P : Program} {w : World} {K : PySem.W.Frag} {mg : Str → Option Value} {base : Heap} {aO aL C : Addr}
theorem Dfn.vac {x : Str} {st : Stmt} {f : Addr} {fd : FuncData} {ps : List Str} {k : Nat} {sp : Sp} (F : Fun K x x st f fd) (m : mg x = some (.ref f)) (hb : Binds K fd ps []) (h : ∀ vs H Q E, ¬ sp vs H Q E) : Dfn P w K mg base x k ps sp :=
  ⟨f, fd, ⟨fun vs H Q E z => (h vs H Q E z).elim, fun A outer s H args us vs Q E _ _ _ _ z => (h vs H Q E z).elim⟩, m, F.kp, hb⟩
theorem Dfn.mk {x : Str} {st : Stmt} {f : Addr} {fd : FuncData} {ps : List Str} {k : Nat} {sp : Sp} (F : Fun K x x st f fd) (m : mg x = some (.ref f)) (hb : Binds K fd ps []) (h : FnOk P w K mg base CX0 k f fd ps sp) : Dfn P w K mg base x k ps sp := ⟨f, fd, h, m, F.kp, hb⟩
theorem no_way : ∀ vs H Q E, ¬ spWay K 0 vs H Q E := fun vs H Q E h => by
  unfold spWay at h
  simp at h
theorem law_all
  {f_read_by : Addr} {d_read_by : FuncData} (F_read_by : Fun K "read_by" "read_by" (topS 3) f_read_by d_read_by) (m_read_by : mg "read_by" = some (.ref f_read_by))
  {f_laid_by : Addr} {d_laid_by : FuncData} (F_laid_by : Fun K "laid_by" "laid_by" (topS 4) f_laid_by d_laid_by) (m_laid_by : mg "laid_by" = some (.ref f_laid_by))
  {f_behind_of : Addr} {d_behind_of : FuncData} (F_behind_of : Fun K "behind_of" "behind_of" (topS 5) f_behind_of d_behind_of) (m_behind_of : mg "behind_of" = some (.ref f_behind_of))
  {f_wanted_behind : Addr} {d_wanted_behind : FuncData} (F_wanted_behind : Fun K "wanted_behind" "wanted_behind" (topS 6) f_wanted_behind d_wanted_behind) (m_wanted_behind : mg "wanted_behind" = some (.ref f_wanted_behind))
  {f_handed_on : Addr} {d_handed_on : FuncData} (F_handed_on : Fun K "handed_on" "handed_on" (topS 7) f_handed_on d_handed_on) (m_handed_on : mg "handed_on" = some (.ref f_handed_on))
  {f_machine_of : Addr} {d_machine_of : FuncData} (F_machine_of : Fun K "machine_of" "machine_of" (topS 9) f_machine_of d_machine_of) (m_machine_of : mg "machine_of" = some (.ref f_machine_of))
  {f_taken : Addr} {d_taken : FuncData} (F_taken : Fun K "_law_taken" "_law_taken" (topS 11) f_taken d_taken) (m_taken : mg "_law_taken" = some (.ref f_taken))
  {f_operand : Addr} {d_operand : FuncData} (F_operand : Fun K "_law_operand" "_law_operand" (topS 13) f_operand d_operand) (m_operand : mg "_law_operand" = some (.ref f_operand))
  {f_fresh : Addr} {d_fresh : FuncData} (F_fresh : Fun K "_law_fresh" "_law_fresh" (topS 14) f_fresh d_fresh) (m_fresh : mg "_law_fresh" = some (.ref f_fresh))
  {f_place : Addr} {d_place : FuncData} (F_place : Fun K "_law_place" "_law_place" (topS 15) f_place d_place) (m_place : mg "_law_place" = some (.ref f_place))
  {f_straight : Addr} {d_straight : FuncData} (F_straight : Fun K "_law_straight" "_law_straight" (topS 16) f_straight d_straight) (m_straight : mg "_law_straight" = some (.ref f_straight))
  {f_block : Addr} {d_block : FuncData} (F_block : Fun K "_law_block" "_law_block" (topS 17) f_block d_block) (m_block : mg "_law_block" = some (.ref f_block))
  {f_choice : Addr} {d_choice : FuncData} (F_choice : Fun K "_law_choice" "_law_choice" (topS 18) f_choice d_choice) (m_choice : mg "_law_choice" = some (.ref f_choice))
  {f_round : Addr} {d_round : FuncData} (F_round : Fun K "_law_round" "_law_round" (topS 19) f_round d_round) (m_round : mg "_law_round" = some (.ref f_round))
  {f_made : Addr} {d_made : FuncData} (F_made : Fun K "_law_made" "_law_made" (topS 20) f_made d_made) (m_made : mg "_law_made" = some (.ref f_made))
  {f_reckon : Addr} {d_reckon : FuncData} (F_reckon : Fun K "_law_reckon" "_law_reckon" (topS 21) f_reckon d_reckon) (m_reckon : mg "_law_reckon" = some (.ref f_reckon))
  {f_came : Addr} {d_came : FuncData} (F_came : Fun K "_law_came" "_law_came" (topS 22) f_came d_came) (m_came : mg "_law_came" = some (.ref f_came))
  {f_middle : Addr} {d_middle : FuncData} (F_middle : Fun K "_law_middle" "_law_middle" (topS 23) f_middle d_middle) (m_middle : mg "_law_middle" = some (.ref f_middle))
  {f_done : Addr} {d_done : FuncData} (F_done : Fun K "_law_done" "_law_done" (topS 24) f_done d_done) (m_done : mg "_law_done" = some (.ref f_done))
  {f_machine : Addr} {d_machine : FuncData} (F_machine : Fun K "_law_machine" "_law_machine" (topS 25) f_machine d_machine) (m_machine : mg "_law_machine" = some (.ref f_machine))
  {f_worked : Addr} {d_worked : FuncData} (F_worked : Fun K "_law_worked" "_law_worked" (topS 26) f_worked d_worked) (m_worked : mg "_law_worked" = some (.ref f_worked))
  {f_lays : Addr} {d_lays : FuncData} (F_lays : Fun K "_law_lays" "_law_lays" (topS 27) f_lays d_lays) (m_lays : mg "_law_lays" = some (.ref f_lays))
  {f_parts_of : Addr} {d_parts_of : FuncData} (F_parts_of : Fun K "_law_parts_of" "_law_parts_of" (topS 28) f_parts_of d_parts_of) (m_parts_of : mg "_law_parts_of" = some (.ref f_parts_of))
  {f_Minit : Addr} {d_Minit : FuncData} (F_Minit : Fun K "__init__" "Maker.__init__" (sMk 0) f_Minit d_Minit) (mk_ : Mk K C f_Minit)
  {f_Mput : Addr} {d_Mput : FuncData} (F_Mput : Fun K "put" "Maker.put" (sMk 1) f_Mput d_Mput) (m_Mput : Meth K C "put" f_Mput)
  {f_Mload : Addr} {d_Mload : FuncData} (F_Mload : Fun K "load" "Maker.load" (sMk 2) f_Mload d_Mload) (m_Mload : Meth K C "load" f_Mload)
  {f_Mmake : Addr} {d_Mmake : FuncData} (F_Mmake : Fun K "make" "Maker.make" (sMk 3) f_Mmake d_Mmake) (m_Mmake : Meth K C "make" f_Mmake)
  {f_Mled : Addr} {d_Mled : FuncData} (F_Mled : Fun K "led" "Maker.led" (sMk 4) f_Mled d_Mled) (m_Mled : Meth K C "led" f_Mled)
  {f_law : Addr} {d_law : FuncData} (F_law : Fun K "law" "law" (topS 29) f_law d_law) (T : Blt K mg aO aL) (TM : McT K mg C) :
  FnOk P w K mg base CX0 11 f_law d_law ["_law_script"] (spLaw K) := by
  have b_read_by : Binds K d_read_by ["row"] [] := F_read_by.binds fun _ _ _ _ _ _ us hl => match us, hl with | [_], _ => rfl
  have b_laid_by : Binds K d_laid_by ["row"] [] := F_laid_by.binds fun _ _ _ _ _ _ us hl => match us, hl with | [_], _ => rfl
  have b_behind_of : Binds K d_behind_of ["rows"] [] := F_behind_of.binds fun _ _ _ _ _ _ us hl => match us, hl with | [_], _ => rfl
  have b_wanted_behind : Binds K d_wanted_behind ["rows"] [] := F_wanted_behind.binds fun _ _ _ _ _ _ us hl => match us, hl with | [_], _ => rfl
  have b_handed_on : Binds K d_handed_on ["rows", "named"] [] := F_handed_on.binds fun _ _ _ _ _ _ us hl => match us, hl with | [_, _], _ => rfl
  have b_machine_of : Binds K d_machine_of ["made"] [] := F_machine_of.binds fun _ _ _ _ _ _ us hl => match us, hl with | [_], _ => rfl
  have b_taken : Binds K d_taken ["_law_row", "_law_many"] [] := F_taken.binds fun _ _ _ _ _ _ us hl => match us, hl with | [_, _], _ => rfl
  have b_operand : Binds K d_operand ["_law_row", "_law_s"] [] := F_operand.binds fun _ _ _ _ _ _ us hl => match us, hl with | [_, _], _ => rfl
  have b_fresh : Binds K d_fresh ["_law_row", "_law_s"] [] := F_fresh.binds fun _ _ _ _ _ _ us hl => match us, hl with | [_, _], _ => rfl
  have b_place : Binds K d_place ["_law_row", "_law_s"] [] := F_place.binds fun _ _ _ _ _ _ us hl => match us, hl with | [_, _], _ => rfl
  have b_straight : Binds K d_straight ["_law_row", "_law_s"] [] := F_straight.binds fun _ _ _ _ _ _ us hl => match us, hl with | [_, _], _ => rfl
  have b_block : Binds K d_block ["_law_row", "_law_s", "_law_deep"] [] := F_block.binds fun _ _ _ _ _ _ us hl => match us, hl with | [_, _, _], _ => rfl
  have b_choice : Binds K d_choice ["_law_row", "_law_s", "_law_deep"] [] := F_choice.binds fun _ _ _ _ _ _ us hl => match us, hl with | [_, _, _], _ => rfl
  have b_round : Binds K d_round ["_law_row", "_law_s", "_law_deep"] [] := F_round.binds fun _ _ _ _ _ _ us hl => match us, hl with | [_, _, _], _ => rfl
  have b_made : Binds K d_made ["_law_row", "_law_deep"] [] := F_made.binds fun _ _ _ _ _ _ us hl => match us, hl with | [_, _], _ => rfl
  have b_reckon : Binds K d_reckon ["_law_word", "_law_one", "_law_other"] [] := F_reckon.binds fun _ _ _ _ _ _ us hl => match us, hl with | [_, _, _], _ => rfl
  have b_came : Binds K d_came ["_law_file", "_law_name", "_law_worths"] [] := F_came.binds fun _ _ _ _ _ _ us hl => match us, hl with | [_, _, _], _ => rfl
  have b_middle : Binds K d_middle ["_law_made_here", "_law_parts", "_law_most"] [] := F_middle.binds fun _ _ _ _ _ _ us hl => match us, hl with | [_, _, _], _ => rfl
  have b_done : Binds K d_done ["_law_row", "_law_cells", "_law_keeps"] [] := F_done.binds fun _ _ _ _ _ _ us hl => match us, hl with | [_, _, _], _ => rfl
  have b_machine : Binds K d_machine ["_law_rows", "_law_made_here", "_law_parts", "_law_most"] [] := F_machine.binds fun _ _ _ _ _ _ us hl => match us, hl with | [_, _, _, _], _ => rfl
  have b_worked : Binds K d_worked ["_law_row", "_law_middle_here", "_law_pile", "_law_keeps"] [] := F_worked.binds fun _ _ _ _ _ _ us hl => match us, hl with | [_, _, _, _], _ => rfl
  have b_lays : Binds K d_lays ["_law_row", "_law_s", "_law_middle_here"] [] := F_lays.binds fun _ _ _ _ _ _ us hl => match us, hl with | [_, _, _], _ => rfl
  have b_parts_of : Binds K d_parts_of ["_law_row", "_law_made_here"] [] := F_parts_of.binds fun _ _ _ _ _ _ us hl => match us, hl with | [_, _], _ => rfl
  have b_Minit : Binds K d_Minit ["self", "rows", "named"] [] := F_Minit.binds fun _ _ _ _ _ _ us hl => match us, hl with | [_, _, _], _ => rfl
  have b_Mload : Binds K d_Mload ["self", "number"] [] := F_Mload.binds fun _ _ _ _ _ _ us hl => match us, hl with | [_, _], _ => rfl
  have b_Mmake : Binds K d_Mmake ["self", "number", "row"] [] := F_Mmake.binds fun _ _ _ _ _ _ us hl => match us, hl with | [_, _, _], _ => rfl
  have b_Mled : Binds K d_Mled ["self"] [] := F_Mled.binds fun _ _ _ _ _ _ us hl => match us, hl with | [_], _ => rfl
  have b_Mput : KBn K d_Mput ["self", "number", "row"] 2 ["row"] (fun us ws => us ++ ws) (fun vs zs => vs ++ zs) := by
    obtain ⟨oc, od, kV, doc, pm, an, cdv, ct, osl, rfl, _, _⟩ := F_Mput.ex
    refine ⟨fun s us ws _ l1 l2 => ?_, fun r1 r2 => r1.append r2⟩
    match us, l1, ws, l2 with
    | [a, b], _, [c], _ => exact .of_eq rfl
  have D_read_by := Dfn.mk (P := P) (w := w) (base := base) F_read_by m_read_by b_read_by (fn_read_by F_read_by T)
  have D_laid_by := Dfn.mk (P := P) (w := w) (base := base) F_laid_by m_laid_by b_laid_by (fn_laid_by F_laid_by T)
  have D_behind_of := Dfn.mk (P := P) (w := w) (base := base) F_behind_of m_behind_of b_behind_of (fn_behind F_behind_of T)
  have D_wanted_behind := Dfn.mk (P := P) (w := w) (base := base) F_wanted_behind m_wanted_behind b_wanted_behind (fn_wanted F_wanted_behind T D_behind_of D_read_by D_laid_by)
  have D_handed_on := Dfn.mk (P := P) (w := w) (base := base) F_handed_on m_handed_on b_handed_on (fn_handed F_handed_on T D_wanted_behind D_read_by D_laid_by)
  have D_Mput : MthK P w K mg base C "put" 1 2 ["self", "number", "row"] ["row"] (spPut C) := ⟨_, _, fn_put F_Mput TM, m_Mput, b_Mput⟩
  have D_Mload : Mth P w K mg base C "load" 2 ["self", "number"] (spLoad C) := ⟨_, _, fn_load F_Mload TM D_Mput D_read_by, m_Mload, b_Mload⟩
  have D_Mmake : Mth P w K mg base C "make" 3 ["self", "number", "row"] (spMake C) := ⟨_, _, fn_make F_Mmake T TM D_Mput D_Mload D_laid_by, m_Mmake, b_Mmake⟩
  have D_Mled : Mth P w K mg base C "led" 3 ["self"] (spLed C) := ⟨_, _, fn_led F_Mled TM, m_Mled, b_Mled⟩
  have D_Minit : MkD P w K mg base C 4 ["self", "rows", "named"] (spInit C) := ⟨_, _, fn_init F_Minit T TM D_handed_on D_Mmake, mk_, b_Minit⟩
  have D_machine_of := Dfn.mk (P := P) (w := w) (base := base) F_machine_of m_machine_of b_machine_of (fn_machine_of F_machine_of T TM D_Minit D_Mled)
  have D_taken := Dfn.mk (P := P) (w := w) (base := base) F_taken m_taken b_taken (fn_taken F_taken T)
  have D_operand := Dfn.mk (P := P) (w := w) (base := base) F_operand m_operand b_operand (fn_operand F_operand T D_taken)
  have D_fresh := Dfn.mk (P := P) (w := w) (base := base) F_fresh m_fresh b_fresh (fn_fresh F_fresh T D_taken)
  have D_place := Dfn.mk (P := P) (w := w) (base := base) F_place m_place b_place (fn_place F_place T D_taken)
  have D_lays := Dfn.mk (P := P) (w := w) (base := base) F_lays m_lays b_lays (fn_lays F_lays T D_place)
  have D_straight := Dfn.mk (P := P) (w := w) (base := base) F_straight m_straight b_straight (fn_straight F_straight T D_taken D_operand D_fresh D_place D_lays)
  have C0 : Dfn P w K mg base "_law_choice" (4 + 2 * 0) ["_law_row", "_law_s", "_law_deep"] (spWay K 0) := .vac F_choice m_choice b_choice no_way
  have R0 : Dfn P w K mg base "_law_round" (4 + 2 * 0) ["_law_row", "_law_s", "_law_deep"] (spWay K 0) := .vac F_round m_round b_round no_way
  have B0 := Dfn.mk (P := P) (w := w) (base := base) F_block m_block b_block (fn_block 0 F_block T D_taken D_straight C0 R0)
  have C1 := Dfn.mk (P := P) (w := w) (base := base) F_choice m_choice b_choice (fn_choice 0 F_choice T D_taken D_operand D_place B0)
  have R1 := Dfn.mk (P := P) (w := w) (base := base) F_round m_round b_round (fn_round 0 F_round T D_taken D_place D_lays B0)
  have B1 := Dfn.mk (P := P) (w := w) (base := base) F_block m_block b_block (fn_block 1 F_block T D_taken D_straight C1 R1)
  have C2 := Dfn.mk (P := P) (w := w) (base := base) F_choice m_choice b_choice (fn_choice 1 F_choice T D_taken D_operand D_place B1)
  have R2 := Dfn.mk (P := P) (w := w) (base := base) F_round m_round b_round (fn_round 1 F_round T D_taken D_place D_lays B1)
  have B2 := Dfn.mk (P := P) (w := w) (base := base) F_block m_block b_block (fn_block 2 F_block T D_taken D_straight C2 R2)
  have D_made := Dfn.mk (P := P) (w := w) (base := base) F_made m_made b_made (fn_made F_made T D_taken D_operand D_place D_lays B2)
  have D_reckon := Dfn.mk (P := P) (w := w) (base := base) F_reckon m_reckon b_reckon (fn_reckon F_reckon T)
  have D_came := Dfn.mk (P := P) (w := w) (base := base) F_came m_came b_came (fn_came F_came T)
  have D_done := Dfn.mk (P := P) (w := w) (base := base) F_done m_done b_done (fn_done F_done T D_reckon D_came)
  have D_worked := Dfn.mk (P := P) (w := w) (base := base) F_worked m_worked b_worked (fn_worked F_worked T D_reckon D_came)
  have D_middle := Dfn.mk (P := P) (w := w) (base := base) F_middle m_middle b_middle (fn_middle F_middle T D_done)
  have D_machine := Dfn.mk (P := P) (w := w) (base := base) F_machine m_machine b_machine (fn_machine F_machine T D_worked)
  have D_parts_of := Dfn.mk (P := P) (w := w) (base := base) F_parts_of m_parts_of b_parts_of (fn_parts_of F_parts_of T D_taken)
  exact fn_law F_law T D_made D_machine_of D_parts_of D_middle D_machine
end
end K48
set_option maxHeartbeats 4000000
set_option linter.all false
/-! what the top has written; the law -/
namespace K48
open PySem L2
theorem words_vals : ∀ {ws : List Str} {us : List Value}, us.length = ws.length → (∀ (i : Nat) (w : Str) (u : Value), ws[i]? = some w → us[i]? = some u → ∃ t, u = .str w t) → Vals (ws.map V.str) us
  | [], [], _, _ => .nil
  | w :: ws, u :: us, hl, h => .cons (h 0 w u rfl rfl) (words_vals (by simpa using hl) fun i w' u' h1 h2 => h (i + 1) w' u' (by simpa using h1) (by simpa using h2))
/-- a tuple of words that the top has made -/
def WordsTup (K : PySem.W.Frag) (a : Addr) (ws : List Str) : Prop := ∃ (o : Obj) (its : Array Value) (n : Nat), K.lookup a = some o ∧ o.cls = .type "tuple" ∧ o.data = .seq its n ∧ its.size ≤ sizeLine ∧ Vals (ws.map V.str) its.toList
theorem WordsTup.sq {K : PySem.W.Frag} {a : Addr} {ws : List Str} (h : WordsTup K a ws) (H : Hp) : SqT K H a (ws.map V.str) := .inr h
theorem frz_only {K : PySem.W.Frag} {H : Hp} {a : Addr} {xs : List V} (hO : Only H) (hS : SqL K H a xs) : FrzL K H a xs := by
  rcases hS with (h | ⟨o, h⟩) | h
  · rcases hO a with e | ⟨o, ys, e⟩ <;> rw [h] at e <;> cases e
  · exact .inl ⟨o, h⟩
  · exact .inr h
theorem all_mk {l : PySem.W.OpenLaw} {w : World} {K : PySem.W.Frag} {h : Heap} {mg : Str → Option Value} {fa aO aL C : Addr} (X : K.In h) (G : h.Ns mainGlobals mg) (hfa : mg "law" = some (.ref fa))
  {f_read_by f_laid_by f_behind_of f_wanted_behind f_handed_on f_machine_of f_taken f_operand f_fresh f_place f_straight f_block f_choice f_round f_made f_reckon f_came f_middle f_done f_machine f_worked f_lays f_parts_of f_Minit f_Mput f_Mload f_Mmake f_Mled f_law : Addr}
  {od_read_by an_read_by od_laid_by an_laid_by od_behind_of an_behind_of od_wanted_behind an_wanted_behind od_handed_on an_handed_on od_machine_of an_machine_of od_taken an_taken od_operand an_operand od_fresh an_fresh od_place an_place od_straight an_straight od_block an_block od_choice an_choice od_round an_round od_made an_made od_reckon an_reckon od_came an_came od_middle an_middle od_done an_done od_machine an_machine od_worked an_worked od_lays an_lays od_parts_of an_parts_of od_Minit an_Minit od_Mput an_Mput od_Mload an_Mload od_Mmake an_Mmake od_Mled an_Mled od_law an_law : Option Addr}
  {sl_read_by sl_laid_by sl_behind_of sl_wanted_behind sl_handed_on sl_machine_of sl_taken sl_operand sl_fresh sl_place sl_straight sl_block sl_choice sl_round sl_made sl_reckon sl_came sl_middle sl_done sl_machine sl_worked sl_lays sl_parts_of sl_Minit sl_Mput sl_Mload sl_Mmake sl_Mled sl_law : Array (Option Value)}
  {oc_read_by kV_read_by dc_read_by pm_read_by cd_read_by ct_read_by oc_laid_by kV_laid_by dc_laid_by pm_laid_by cd_laid_by ct_laid_by oc_behind_of kV_behind_of dc_behind_of pm_behind_of cd_behind_of ct_behind_of oc_wanted_behind kV_wanted_behind dc_wanted_behind pm_wanted_behind cd_wanted_behind ct_wanted_behind oc_handed_on kV_handed_on dc_handed_on pm_handed_on cd_handed_on ct_handed_on oc_machine_of kV_machine_of dc_machine_of pm_machine_of cd_machine_of ct_machine_of oc_taken kV_taken dc_taken pm_taken cd_taken ct_taken oc_operand kV_operand dc_operand pm_operand cd_operand ct_operand oc_fresh kV_fresh dc_fresh pm_fresh cd_fresh ct_fresh oc_place kV_place dc_place pm_place cd_place ct_place oc_straight kV_straight dc_straight pm_straight cd_straight ct_straight oc_block kV_block dc_block pm_block cd_block ct_block oc_choice kV_choice dc_choice pm_choice cd_choice ct_choice oc_round kV_round dc_round pm_round cd_round ct_round oc_made kV_made dc_made pm_made cd_made ct_made oc_reckon kV_reckon dc_reckon pm_reckon cd_reckon ct_reckon oc_came kV_came dc_came pm_came cd_came ct_came oc_middle kV_middle dc_middle pm_middle cd_middle ct_middle oc_done kV_done dc_done pm_done cd_done ct_done oc_machine kV_machine dc_machine pm_machine cd_machine ct_machine oc_worked kV_worked dc_worked pm_worked cd_worked ct_worked oc_lays kV_lays dc_lays pm_lays cd_lays ct_lays oc_parts_of kV_parts_of dc_parts_of pm_parts_of cd_parts_of ct_parts_of oc_Minit kV_Minit dc_Minit pm_Minit cd_Minit ct_Minit oc_Mput kV_Mput dc_Mput pm_Mput cd_Mput ct_Mput oc_Mload kV_Mload dc_Mload pm_Mload cd_Mload ct_Mload oc_Mmake kV_Mmake dc_Mmake pm_Mmake cd_Mmake ct_Mmake oc_Mled kV_Mled dc_Mled pm_Mled cd_Mled ct_Mled oc_law kV_law dc_law pm_law cd_law ct_law : Value}
  (a_read_by : PySem.W.nsIn K mainGlobals "read_by" = some (some (.ref f_read_by)))
  (l_read_by : K.lookup f_read_by = some ⟨oc_read_by, od_read_by, .func (PySem.W.fnOf "read_by" "read_by" (defArgs (topS 3)) (defBody (topS 3)) (defScope (topS 3)) .none kV_read_by dc_read_by pm_read_by an_read_by cd_read_by ct_read_by), sl_read_by⟩) (c_read_by : PySem.W.codeIn K cd_read_by "read_by" = true) (k_read_by : PySem.W.keepIn K (.ref f_read_by) = true)
  (a_laid_by : PySem.W.nsIn K mainGlobals "laid_by" = some (some (.ref f_laid_by)))
  (l_laid_by : K.lookup f_laid_by = some ⟨oc_laid_by, od_laid_by, .func (PySem.W.fnOf "laid_by" "laid_by" (defArgs (topS 4)) (defBody (topS 4)) (defScope (topS 4)) .none kV_laid_by dc_laid_by pm_laid_by an_laid_by cd_laid_by ct_laid_by), sl_laid_by⟩) (c_laid_by : PySem.W.codeIn K cd_laid_by "laid_by" = true) (k_laid_by : PySem.W.keepIn K (.ref f_laid_by) = true)
  (a_behind_of : PySem.W.nsIn K mainGlobals "behind_of" = some (some (.ref f_behind_of)))
  (l_behind_of : K.lookup f_behind_of = some ⟨oc_behind_of, od_behind_of, .func (PySem.W.fnOf "behind_of" "behind_of" (defArgs (topS 5)) (defBody (topS 5)) (defScope (topS 5)) .none kV_behind_of dc_behind_of pm_behind_of an_behind_of cd_behind_of ct_behind_of), sl_behind_of⟩) (c_behind_of : PySem.W.codeIn K cd_behind_of "behind_of" = true) (k_behind_of : PySem.W.keepIn K (.ref f_behind_of) = true)
  (a_wanted_behind : PySem.W.nsIn K mainGlobals "wanted_behind" = some (some (.ref f_wanted_behind)))
  (l_wanted_behind : K.lookup f_wanted_behind = some ⟨oc_wanted_behind, od_wanted_behind, .func (PySem.W.fnOf "wanted_behind" "wanted_behind" (defArgs (topS 6)) (defBody (topS 6)) (defScope (topS 6)) .none kV_wanted_behind dc_wanted_behind pm_wanted_behind an_wanted_behind cd_wanted_behind ct_wanted_behind), sl_wanted_behind⟩) (c_wanted_behind : PySem.W.codeIn K cd_wanted_behind "wanted_behind" = true) (k_wanted_behind : PySem.W.keepIn K (.ref f_wanted_behind) = true)
  (a_handed_on : PySem.W.nsIn K mainGlobals "handed_on" = some (some (.ref f_handed_on)))
  (l_handed_on : K.lookup f_handed_on = some ⟨oc_handed_on, od_handed_on, .func (PySem.W.fnOf "handed_on" "handed_on" (defArgs (topS 7)) (defBody (topS 7)) (defScope (topS 7)) .none kV_handed_on dc_handed_on pm_handed_on an_handed_on cd_handed_on ct_handed_on), sl_handed_on⟩) (c_handed_on : PySem.W.codeIn K cd_handed_on "handed_on" = true) (k_handed_on : PySem.W.keepIn K (.ref f_handed_on) = true)
  (a_machine_of : PySem.W.nsIn K mainGlobals "machine_of" = some (some (.ref f_machine_of)))
  (l_machine_of : K.lookup f_machine_of = some ⟨oc_machine_of, od_machine_of, .func (PySem.W.fnOf "machine_of" "machine_of" (defArgs (topS 9)) (defBody (topS 9)) (defScope (topS 9)) .none kV_machine_of dc_machine_of pm_machine_of an_machine_of cd_machine_of ct_machine_of), sl_machine_of⟩) (c_machine_of : PySem.W.codeIn K cd_machine_of "machine_of" = true) (k_machine_of : PySem.W.keepIn K (.ref f_machine_of) = true)
  (a_taken : PySem.W.nsIn K mainGlobals "_law_taken" = some (some (.ref f_taken)))
  (l_taken : K.lookup f_taken = some ⟨oc_taken, od_taken, .func (PySem.W.fnOf "_law_taken" "_law_taken" (defArgs (topS 11)) (defBody (topS 11)) (defScope (topS 11)) .none kV_taken dc_taken pm_taken an_taken cd_taken ct_taken), sl_taken⟩) (c_taken : PySem.W.codeIn K cd_taken "_law_taken" = true) (k_taken : PySem.W.keepIn K (.ref f_taken) = true)
  (a_operand : PySem.W.nsIn K mainGlobals "_law_operand" = some (some (.ref f_operand)))
  (l_operand : K.lookup f_operand = some ⟨oc_operand, od_operand, .func (PySem.W.fnOf "_law_operand" "_law_operand" (defArgs (topS 13)) (defBody (topS 13)) (defScope (topS 13)) .none kV_operand dc_operand pm_operand an_operand cd_operand ct_operand), sl_operand⟩) (c_operand : PySem.W.codeIn K cd_operand "_law_operand" = true) (k_operand : PySem.W.keepIn K (.ref f_operand) = true)
  (a_fresh : PySem.W.nsIn K mainGlobals "_law_fresh" = some (some (.ref f_fresh)))
  (l_fresh : K.lookup f_fresh = some ⟨oc_fresh, od_fresh, .func (PySem.W.fnOf "_law_fresh" "_law_fresh" (defArgs (topS 14)) (defBody (topS 14)) (defScope (topS 14)) .none kV_fresh dc_fresh pm_fresh an_fresh cd_fresh ct_fresh), sl_fresh⟩) (c_fresh : PySem.W.codeIn K cd_fresh "_law_fresh" = true) (k_fresh : PySem.W.keepIn K (.ref f_fresh) = true)
  (a_place : PySem.W.nsIn K mainGlobals "_law_place" = some (some (.ref f_place)))
  (l_place : K.lookup f_place = some ⟨oc_place, od_place, .func (PySem.W.fnOf "_law_place" "_law_place" (defArgs (topS 15)) (defBody (topS 15)) (defScope (topS 15)) .none kV_place dc_place pm_place an_place cd_place ct_place), sl_place⟩) (c_place : PySem.W.codeIn K cd_place "_law_place" = true) (k_place : PySem.W.keepIn K (.ref f_place) = true)
  (a_straight : PySem.W.nsIn K mainGlobals "_law_straight" = some (some (.ref f_straight)))
  (l_straight : K.lookup f_straight = some ⟨oc_straight, od_straight, .func (PySem.W.fnOf "_law_straight" "_law_straight" (defArgs (topS 16)) (defBody (topS 16)) (defScope (topS 16)) .none kV_straight dc_straight pm_straight an_straight cd_straight ct_straight), sl_straight⟩) (c_straight : PySem.W.codeIn K cd_straight "_law_straight" = true) (k_straight : PySem.W.keepIn K (.ref f_straight) = true)
  (a_block : PySem.W.nsIn K mainGlobals "_law_block" = some (some (.ref f_block)))
  (l_block : K.lookup f_block = some ⟨oc_block, od_block, .func (PySem.W.fnOf "_law_block" "_law_block" (defArgs (topS 17)) (defBody (topS 17)) (defScope (topS 17)) .none kV_block dc_block pm_block an_block cd_block ct_block), sl_block⟩) (c_block : PySem.W.codeIn K cd_block "_law_block" = true) (k_block : PySem.W.keepIn K (.ref f_block) = true)
  (a_choice : PySem.W.nsIn K mainGlobals "_law_choice" = some (some (.ref f_choice)))
  (l_choice : K.lookup f_choice = some ⟨oc_choice, od_choice, .func (PySem.W.fnOf "_law_choice" "_law_choice" (defArgs (topS 18)) (defBody (topS 18)) (defScope (topS 18)) .none kV_choice dc_choice pm_choice an_choice cd_choice ct_choice), sl_choice⟩) (c_choice : PySem.W.codeIn K cd_choice "_law_choice" = true) (k_choice : PySem.W.keepIn K (.ref f_choice) = true)
  (a_round : PySem.W.nsIn K mainGlobals "_law_round" = some (some (.ref f_round)))
  (l_round : K.lookup f_round = some ⟨oc_round, od_round, .func (PySem.W.fnOf "_law_round" "_law_round" (defArgs (topS 19)) (defBody (topS 19)) (defScope (topS 19)) .none kV_round dc_round pm_round an_round cd_round ct_round), sl_round⟩) (c_round : PySem.W.codeIn K cd_round "_law_round" = true) (k_round : PySem.W.keepIn K (.ref f_round) = true)
  (a_made : PySem.W.nsIn K mainGlobals "_law_made" = some (some (.ref f_made)))
  (l_made : K.lookup f_made = some ⟨oc_made, od_made, .func (PySem.W.fnOf "_law_made" "_law_made" (defArgs (topS 20)) (defBody (topS 20)) (defScope (topS 20)) .none kV_made dc_made pm_made an_made cd_made ct_made), sl_made⟩) (c_made : PySem.W.codeIn K cd_made "_law_made" = true) (k_made : PySem.W.keepIn K (.ref f_made) = true)
  (a_reckon : PySem.W.nsIn K mainGlobals "_law_reckon" = some (some (.ref f_reckon)))
  (l_reckon : K.lookup f_reckon = some ⟨oc_reckon, od_reckon, .func (PySem.W.fnOf "_law_reckon" "_law_reckon" (defArgs (topS 21)) (defBody (topS 21)) (defScope (topS 21)) .none kV_reckon dc_reckon pm_reckon an_reckon cd_reckon ct_reckon), sl_reckon⟩) (c_reckon : PySem.W.codeIn K cd_reckon "_law_reckon" = true) (k_reckon : PySem.W.keepIn K (.ref f_reckon) = true)
  (a_came : PySem.W.nsIn K mainGlobals "_law_came" = some (some (.ref f_came)))
  (l_came : K.lookup f_came = some ⟨oc_came, od_came, .func (PySem.W.fnOf "_law_came" "_law_came" (defArgs (topS 22)) (defBody (topS 22)) (defScope (topS 22)) .none kV_came dc_came pm_came an_came cd_came ct_came), sl_came⟩) (c_came : PySem.W.codeIn K cd_came "_law_came" = true) (k_came : PySem.W.keepIn K (.ref f_came) = true)
  (a_middle : PySem.W.nsIn K mainGlobals "_law_middle" = some (some (.ref f_middle)))
  (l_middle : K.lookup f_middle = some ⟨oc_middle, od_middle, .func (PySem.W.fnOf "_law_middle" "_law_middle" (defArgs (topS 23)) (defBody (topS 23)) (defScope (topS 23)) .none kV_middle dc_middle pm_middle an_middle cd_middle ct_middle), sl_middle⟩) (c_middle : PySem.W.codeIn K cd_middle "_law_middle" = true) (k_middle : PySem.W.keepIn K (.ref f_middle) = true)
  (a_done : PySem.W.nsIn K mainGlobals "_law_done" = some (some (.ref f_done)))
  (l_done : K.lookup f_done = some ⟨oc_done, od_done, .func (PySem.W.fnOf "_law_done" "_law_done" (defArgs (topS 24)) (defBody (topS 24)) (defScope (topS 24)) .none kV_done dc_done pm_done an_done cd_done ct_done), sl_done⟩) (c_done : PySem.W.codeIn K cd_done "_law_done" = true) (k_done : PySem.W.keepIn K (.ref f_done) = true)
  (a_machine : PySem.W.nsIn K mainGlobals "_law_machine" = some (some (.ref f_machine)))
  (l_machine : K.lookup f_machine = some ⟨oc_machine, od_machine, .func (PySem.W.fnOf "_law_machine" "_law_machine" (defArgs (topS 25)) (defBody (topS 25)) (defScope (topS 25)) .none kV_machine dc_machine pm_machine an_machine cd_machine ct_machine), sl_machine⟩) (c_machine : PySem.W.codeIn K cd_machine "_law_machine" = true) (k_machine : PySem.W.keepIn K (.ref f_machine) = true)
  (a_worked : PySem.W.nsIn K mainGlobals "_law_worked" = some (some (.ref f_worked)))
  (l_worked : K.lookup f_worked = some ⟨oc_worked, od_worked, .func (PySem.W.fnOf "_law_worked" "_law_worked" (defArgs (topS 26)) (defBody (topS 26)) (defScope (topS 26)) .none kV_worked dc_worked pm_worked an_worked cd_worked ct_worked), sl_worked⟩) (c_worked : PySem.W.codeIn K cd_worked "_law_worked" = true) (k_worked : PySem.W.keepIn K (.ref f_worked) = true)
  (a_lays : PySem.W.nsIn K mainGlobals "_law_lays" = some (some (.ref f_lays)))
  (l_lays : K.lookup f_lays = some ⟨oc_lays, od_lays, .func (PySem.W.fnOf "_law_lays" "_law_lays" (defArgs (topS 27)) (defBody (topS 27)) (defScope (topS 27)) .none kV_lays dc_lays pm_lays an_lays cd_lays ct_lays), sl_lays⟩) (c_lays : PySem.W.codeIn K cd_lays "_law_lays" = true) (k_lays : PySem.W.keepIn K (.ref f_lays) = true)
  (a_parts_of : PySem.W.nsIn K mainGlobals "_law_parts_of" = some (some (.ref f_parts_of)))
  (l_parts_of : K.lookup f_parts_of = some ⟨oc_parts_of, od_parts_of, .func (PySem.W.fnOf "_law_parts_of" "_law_parts_of" (defArgs (topS 28)) (defBody (topS 28)) (defScope (topS 28)) .none kV_parts_of dc_parts_of pm_parts_of an_parts_of cd_parts_of ct_parts_of), sl_parts_of⟩) (c_parts_of : PySem.W.codeIn K cd_parts_of "_law_parts_of" = true) (k_parts_of : PySem.W.keepIn K (.ref f_parts_of) = true)
  (a_Minit : PySem.W.findIn K (.ref C) "__init__" = some (some (.ref f_Minit))) (i_Minit : PySem.W.isFn K (.ref f_Minit) = true)
  (l_Minit : K.lookup f_Minit = some ⟨oc_Minit, od_Minit, .func (PySem.W.fnOf "__init__" "Maker.__init__" (defArgs (sMk 0)) (defBody (sMk 0)) (defScope (sMk 0)) .none kV_Minit dc_Minit pm_Minit an_Minit cd_Minit ct_Minit), sl_Minit⟩) (c_Minit : PySem.W.codeIn K cd_Minit "Maker.__init__" = true) (k_Minit : PySem.W.keepIn K (.ref f_Minit) = true)
  (a_Mput : PySem.W.findIn K (.ref C) "put" = some (some (.ref f_Mput))) (i_Mput : PySem.W.isFn K (.ref f_Mput) = true)
  (l_Mput : K.lookup f_Mput = some ⟨oc_Mput, od_Mput, .func (PySem.W.fnOf "put" "Maker.put" (defArgs (sMk 1)) (defBody (sMk 1)) (defScope (sMk 1)) .none kV_Mput dc_Mput pm_Mput an_Mput cd_Mput ct_Mput), sl_Mput⟩) (c_Mput : PySem.W.codeIn K cd_Mput "Maker.put" = true) (k_Mput : PySem.W.keepIn K (.ref f_Mput) = true)
  (a_Mload : PySem.W.findIn K (.ref C) "load" = some (some (.ref f_Mload))) (i_Mload : PySem.W.isFn K (.ref f_Mload) = true)
  (l_Mload : K.lookup f_Mload = some ⟨oc_Mload, od_Mload, .func (PySem.W.fnOf "load" "Maker.load" (defArgs (sMk 2)) (defBody (sMk 2)) (defScope (sMk 2)) .none kV_Mload dc_Mload pm_Mload an_Mload cd_Mload ct_Mload), sl_Mload⟩) (c_Mload : PySem.W.codeIn K cd_Mload "Maker.load" = true) (k_Mload : PySem.W.keepIn K (.ref f_Mload) = true)
  (a_Mmake : PySem.W.findIn K (.ref C) "make" = some (some (.ref f_Mmake))) (i_Mmake : PySem.W.isFn K (.ref f_Mmake) = true)
  (l_Mmake : K.lookup f_Mmake = some ⟨oc_Mmake, od_Mmake, .func (PySem.W.fnOf "make" "Maker.make" (defArgs (sMk 3)) (defBody (sMk 3)) (defScope (sMk 3)) .none kV_Mmake dc_Mmake pm_Mmake an_Mmake cd_Mmake ct_Mmake), sl_Mmake⟩) (c_Mmake : PySem.W.codeIn K cd_Mmake "Maker.make" = true) (k_Mmake : PySem.W.keepIn K (.ref f_Mmake) = true)
  (a_Mled : PySem.W.findIn K (.ref C) "led" = some (some (.ref f_Mled))) (i_Mled : PySem.W.isFn K (.ref f_Mled) = true)
  (l_Mled : K.lookup f_Mled = some ⟨oc_Mled, od_Mled, .func (PySem.W.fnOf "led" "Maker.led" (defArgs (sMk 4)) (defBody (sMk 4)) (defScope (sMk 4)) .none kV_Mled dc_Mled pm_Mled an_Mled cd_Mled ct_Mled), sl_Mled⟩) (c_Mled : PySem.W.codeIn K cd_Mled "Maker.led" = true) (k_Mled : PySem.W.keepIn K (.ref f_Mled) = true)
  (a_law : PySem.W.nsIn K mainGlobals "law" = some (some (.ref f_law)))
  (l_law : K.lookup f_law = some ⟨oc_law, od_law, .func (PySem.W.fnOf "law" "law" (defArgs (topS 29)) (defBody (topS 29)) (defScope (topS 29)) .none kV_law dc_law pm_law an_law cd_law ct_law), sl_law⟩) (c_law : PySem.W.codeIn K cd_law "law" = true) (k_law : PySem.W.keepIn K (.ref f_law) = true)
  (aC : PySem.W.nsIn K mainGlobals "Maker" = some (some (.ref C))) (pg : PySem.W.plainGet K C Str.empty = true) (hd : PySem.W.hasDictIn K C = true) (po : PySem.W.plainOver K C = true) (sa : PySem.W.findIn K (.ref C) "__setattr__" = some (some (.builtin "object.__setattr__")))
  (mk : PySem.W.makesIn K C = true) (kc : PySem.W.keepIn K (.ref C) = true)
  (n_rows : PySem.W.findIn K (.ref C) "rows" = some none)
  (n_left : PySem.W.findIn K (.ref C) "left" = some none)
  (n_found : PySem.W.findIn K (.ref C) "found" = some none)
  (n_spots : PySem.W.findIn K (.ref C) "spots" = some none)
  (z_len : PySem.W.nsIn K mainGlobals "len" = some none)
  (z_int : PySem.W.nsIn K mainGlobals "int" = some none)
  (z_list : PySem.W.nsIn K mainGlobals "list" = some none)
  (z_tuple : PySem.W.nsIn K mainGlobals "tuple" = some none)
  (z_dict : PySem.W.nsIn K mainGlobals "dict" = some none)
  (z_isinstance : PySem.W.nsIn K mainGlobals "isinstance" = some none)
  (z_str : PySem.W.nsIn K mainGlobals "str" = some none)
  (z_range : PySem.W.nsIn K mainGlobals "range" = some none)
  (z_enumerate : PySem.W.nsIn K mainGlobals "enumerate" = some none)
  (z_zip : PySem.W.nsIn K mainGlobals "zip" = some none)
  (a_OPS : PySem.W.nsIn K mainGlobals "OPS" = some (some (.ref aO))) (a_LAYING : PySem.W.nsIn K mainGlobals "LAYING" = some (some (.ref aL)))
  (w_OPS : WordsTup K aO [("add" : Str), "take", "times", "over", "rest", "less", "same"]) (w_LAYING : WordsTup K aL [("add" : Str), "take", "times", "over", "rest", "less", "same", "put", "copy", "fetch", "call"]) :
    ∃ fd : FuncData, (∀ (s : Shared) (v : Value), BindsTo s fd ⟨[v], []⟩ [("_law_script", v)]) ∧ ∀ base : Heap, K.In base → base.Ns mainGlobals mg → FnOk l.prog w K mg base CX0 11 fa fd ["_law_script"] (spLaw K) := by
  have e := hfa.symm.trans (PySem.W.mg_of X G a_law)
  cases e
  have T : Blt K mg aO aL := ⟨PySem.W.mg_none_of X G z_len, PySem.W.mg_none_of X G z_int, PySem.W.mg_none_of X G z_list, PySem.W.mg_none_of X G z_tuple, PySem.W.mg_none_of X G z_dict, PySem.W.mg_none_of X G z_isinstance, PySem.W.mg_none_of X G z_str, PySem.W.mg_none_of X G z_range, PySem.W.mg_none_of X G z_enumerate, PySem.W.mg_none_of X G z_zip, PySem.W.mg_of X G a_OPS, PySem.W.mg_of X G a_LAYING, w_OPS.sq, w_LAYING.sq⟩
  have TM : McT K mg C := ⟨⟨pg, hd, po, sa⟩, n_rows, n_left, n_found, n_spots, PySem.W.mg_of X G aC⟩
  refine ⟨_, fun s v => ?_, fun base _ _ => law_all
    (fun_mk (st := topS 3) l_read_by c_read_by k_read_by) (PySem.W.mg_of X G a_read_by)
    (fun_mk (st := topS 4) l_laid_by c_laid_by k_laid_by) (PySem.W.mg_of X G a_laid_by)
    (fun_mk (st := topS 5) l_behind_of c_behind_of k_behind_of) (PySem.W.mg_of X G a_behind_of)
    (fun_mk (st := topS 6) l_wanted_behind c_wanted_behind k_wanted_behind) (PySem.W.mg_of X G a_wanted_behind)
    (fun_mk (st := topS 7) l_handed_on c_handed_on k_handed_on) (PySem.W.mg_of X G a_handed_on)
    (fun_mk (st := topS 9) l_machine_of c_machine_of k_machine_of) (PySem.W.mg_of X G a_machine_of)
    (fun_mk (st := topS 11) l_taken c_taken k_taken) (PySem.W.mg_of X G a_taken)
    (fun_mk (st := topS 13) l_operand c_operand k_operand) (PySem.W.mg_of X G a_operand)
    (fun_mk (st := topS 14) l_fresh c_fresh k_fresh) (PySem.W.mg_of X G a_fresh)
    (fun_mk (st := topS 15) l_place c_place k_place) (PySem.W.mg_of X G a_place)
    (fun_mk (st := topS 16) l_straight c_straight k_straight) (PySem.W.mg_of X G a_straight)
    (fun_mk (st := topS 17) l_block c_block k_block) (PySem.W.mg_of X G a_block)
    (fun_mk (st := topS 18) l_choice c_choice k_choice) (PySem.W.mg_of X G a_choice)
    (fun_mk (st := topS 19) l_round c_round k_round) (PySem.W.mg_of X G a_round)
    (fun_mk (st := topS 20) l_made c_made k_made) (PySem.W.mg_of X G a_made)
    (fun_mk (st := topS 21) l_reckon c_reckon k_reckon) (PySem.W.mg_of X G a_reckon)
    (fun_mk (st := topS 22) l_came c_came k_came) (PySem.W.mg_of X G a_came)
    (fun_mk (st := topS 23) l_middle c_middle k_middle) (PySem.W.mg_of X G a_middle)
    (fun_mk (st := topS 24) l_done c_done k_done) (PySem.W.mg_of X G a_done)
    (fun_mk (st := topS 25) l_machine c_machine k_machine) (PySem.W.mg_of X G a_machine)
    (fun_mk (st := topS 26) l_worked c_worked k_worked) (PySem.W.mg_of X G a_worked)
    (fun_mk (st := topS 27) l_lays c_lays k_lays) (PySem.W.mg_of X G a_lays)
    (fun_mk (st := topS 28) l_parts_of c_parts_of k_parts_of) (PySem.W.mg_of X G a_parts_of)
    (fun_mk (st := sMk 0) l_Minit c_Minit k_Minit) ⟨mk, a_Minit, i_Minit, kc⟩
    (fun_mk (st := sMk 1) l_Mput c_Mput k_Mput) ⟨a_Mput, i_Mput, k_Mput⟩
    (fun_mk (st := sMk 2) l_Mload c_Mload k_Mload) ⟨a_Mload, i_Mload, k_Mload⟩
    (fun_mk (st := sMk 3) l_Mmake c_Mmake k_Mmake) ⟨a_Mmake, i_Mmake, k_Mmake⟩
    (fun_mk (st := sMk 4) l_Mled c_Mled k_Mled) ⟨a_Mled, i_Mled, k_Mled⟩
    (fun_mk (st := topS 29) l_law c_law k_law)
    T TM⟩
  exact .of_eq rfl
theorem walk {l : PySem.W.OpenLaw} {q : Program} {loose : List Str} {XP : (Str → Option Value) → Heap → Prop} {YP : World → Heap → Prop} {d : DefRec} {K : Params → PySem.W.Frag} (hn : l.most = some 63) (hdf : d.params.defaults = [])
    (hY : ∀ (w : World) (h : Heap), YP w h → (K w.params).In h)
    (F : ∀ (w : World) (mg : Str → Option Value) (fa : Addr) (h : Heap), (K w.params).In h → h.Ns mainGlobals mg → mg d.name = some (.ref fa) →
      ∃ fd : FuncData, (∀ (s : Shared) (u : Value), BindsTo s fd ⟨[u], []⟩ [("_law_script", u)]) ∧ ∀ base : Heap, (K w.params).In base → base.Ns mainGlobals mg → FnOk l.prog w (K w.params) mg base CX0 11 fa fd ["_law_script"] (spLaw (K w.params))) :
    PySem.W.WalkO q loose XP YP l.row.toRowW d [] (fun f vs => PySem.call f vs) :=
  L2.walk_of (n := 63) (k := 11) (x := "_law_script") (CX := fun _ => CX0) (sp := fun w => spLaw (K w.params)) hn (by decide) hdf ⟨rfl, by decide, by decide⟩ hY F (fun w H a ns hl hO hS => ⟨a, ns, rfl, frz_only hO hS, hl, fun _ => rfl⟩) fun _ _ _ _ _ z => z
end K48
open PySem PySem.W PyProof.Rows in
set_option maxRecDepth 100000 in
set_option maxHeartbeats 0 in
theorem PySem.Challenge.cw_wholetongue_k48_whole_cells_as_they_are_holds : PySem.Challenge.rw_wholetongue_k48_whole_cells_as_they_are.Holds := by
  w_on; o_law; k_head; (case hw => w_witness2)
  k_fill
  refine K48.walk (l := PySem.Challenge.rw_wholetongue_k48_whole_cells_as_they_are) rfl rfl (fun w h Y => PySem.W.kIn_of Y) ?F
  case F =>
    intro w mg fa h KX G hmg
    refine' K48.all_mk KX G hmg ?a_read_by ?l_read_by ?c_read_by ?k_read_by ?a_laid_by ?l_laid_by ?c_laid_by ?k_laid_by ?a_behind_of ?l_behind_of ?c_behind_of ?k_behind_of ?a_wanted_behind ?l_wanted_behind ?c_wanted_behind ?k_wanted_behind ?a_handed_on ?l_handed_on ?c_handed_on ?k_handed_on ?a_machine_of ?l_machine_of ?c_machine_of ?k_machine_of ?a_taken ?l_taken ?c_taken ?k_taken ?a_operand ?l_operand ?c_operand ?k_operand ?a_fresh ?l_fresh ?c_fresh ?k_fresh ?a_place ?l_place ?c_place ?k_place ?a_straight ?l_straight ?c_straight ?k_straight ?a_block ?l_block ?c_block ?k_block ?a_choice ?l_choice ?c_choice ?k_choice ?a_round ?l_round ?c_round ?k_round ?a_made ?l_made ?c_made ?k_made ?a_reckon ?l_reckon ?c_reckon ?k_reckon ?a_came ?l_came ?c_came ?k_came ?a_middle ?l_middle ?c_middle ?k_middle ?a_done ?l_done ?c_done ?k_done ?a_machine ?l_machine ?c_machine ?k_machine ?a_worked ?l_worked ?c_worked ?k_worked ?a_lays ?l_lays ?c_lays ?k_lays ?a_parts_of ?l_parts_of ?c_parts_of ?k_parts_of ?a_Minit ?i_Minit ?l_Minit ?c_Minit ?k_Minit ?a_Mput ?i_Mput ?l_Mput ?c_Mput ?k_Mput ?a_Mload ?i_Mload ?l_Mload ?c_Mload ?k_Mload ?a_Mmake ?i_Mmake ?l_Mmake ?c_Mmake ?k_Mmake ?a_Mled ?i_Mled ?l_Mled ?c_Mled ?k_Mled ?a_law ?l_law ?c_law ?k_law ?aC ?pg ?hd ?po ?sa ?mk ?kc ?n_rows ?n_left ?n_found ?n_spots ?z_len ?z_int ?z_list ?z_tuple ?z_dict ?z_isinstance ?z_str ?z_range ?z_enumerate ?z_zip ?a_OPS ?a_LAYING ?w_OPS ?w_LAYING
    (case aC => k_is)
    (case a_read_by => k_is)
    (case l_read_by => k_is)
    (case c_read_by => k_is)
    (case k_read_by => k_is)
    (case a_laid_by => k_is)
    (case l_laid_by => k_is)
    (case c_laid_by => k_is)
    (case k_laid_by => k_is)
    (case a_behind_of => k_is)
    (case l_behind_of => k_is)
    (case c_behind_of => k_is)
    (case k_behind_of => k_is)
    (case a_wanted_behind => k_is)
    (case l_wanted_behind => k_is)
    (case c_wanted_behind => k_is)
    (case k_wanted_behind => k_is)
    (case a_handed_on => k_is)
    (case l_handed_on => k_is)
    (case c_handed_on => k_is)
    (case k_handed_on => k_is)
    (case a_machine_of => k_is)
    (case l_machine_of => k_is)
    (case c_machine_of => k_is)
    (case k_machine_of => k_is)
    (case a_taken => k_is)
    (case l_taken => k_is)
    (case c_taken => k_is)
    (case k_taken => k_is)
    (case a_operand => k_is)
    (case l_operand => k_is)
    (case c_operand => k_is)
    (case k_operand => k_is)
    (case a_fresh => k_is)
    (case l_fresh => k_is)
    (case c_fresh => k_is)
    (case k_fresh => k_is)
    (case a_place => k_is)
    (case l_place => k_is)
    (case c_place => k_is)
    (case k_place => k_is)
    (case a_straight => k_is)
    (case l_straight => k_is)
    (case c_straight => k_is)
    (case k_straight => k_is)
    (case a_block => k_is)
    (case l_block => k_is)
    (case c_block => k_is)
    (case k_block => k_is)
    (case a_choice => k_is)
    (case l_choice => k_is)
    (case c_choice => k_is)
    (case k_choice => k_is)
    (case a_round => k_is)
    (case l_round => k_is)
    (case c_round => k_is)
    (case k_round => k_is)
    (case a_made => k_is)
    (case l_made => k_is)
    (case c_made => k_is)
    (case k_made => k_is)
    (case a_reckon => k_is)
    (case l_reckon => k_is)
    (case c_reckon => k_is)
    (case k_reckon => k_is)
    (case a_came => k_is)
    (case l_came => k_is)
    (case c_came => k_is)
    (case k_came => k_is)
    (case a_middle => k_is)
    (case l_middle => k_is)
    (case c_middle => k_is)
    (case k_middle => k_is)
    (case a_done => k_is)
    (case l_done => k_is)
    (case c_done => k_is)
    (case k_done => k_is)
    (case a_machine => k_is)
    (case l_machine => k_is)
    (case c_machine => k_is)
    (case k_machine => k_is)
    (case a_worked => k_is)
    (case l_worked => k_is)
    (case c_worked => k_is)
    (case k_worked => k_is)
    (case a_lays => k_is)
    (case l_lays => k_is)
    (case c_lays => k_is)
    (case k_lays => k_is)
    (case a_parts_of => k_is)
    (case l_parts_of => k_is)
    (case c_parts_of => k_is)
    (case k_parts_of => k_is)
    (case a_Minit => k_is)
    (case i_Minit => k_is)
    (case l_Minit => k_is)
    (case c_Minit => k_is)
    (case k_Minit => k_is)
    (case a_Mput => k_is)
    (case i_Mput => k_is)
    (case l_Mput => k_is)
    (case c_Mput => k_is)
    (case k_Mput => k_is)
    (case a_Mload => k_is)
    (case i_Mload => k_is)
    (case l_Mload => k_is)
    (case c_Mload => k_is)
    (case k_Mload => k_is)
    (case a_Mmake => k_is)
    (case i_Mmake => k_is)
    (case l_Mmake => k_is)
    (case c_Mmake => k_is)
    (case k_Mmake => k_is)
    (case a_Mled => k_is)
    (case i_Mled => k_is)
    (case l_Mled => k_is)
    (case c_Mled => k_is)
    (case k_Mled => k_is)
    (case a_law => k_is)
    (case l_law => k_is)
    (case c_law => k_is)
    (case k_law => k_is)
    (case pg => k_is)
    (case hd => k_is)
    (case po => k_is)
    (case sa => k_is)
    (case mk => k_is)
    (case kc => k_is)
    (case n_rows => k_is)
    (case n_left => k_is)
    (case n_found => k_is)
    (case n_spots => k_is)
    (case z_len => k_is)
    (case z_int => k_is)
    (case z_list => k_is)
    (case z_tuple => k_is)
    (case z_dict => k_is)
    (case z_isinstance => k_is)
    (case z_str => k_is)
    (case z_range => k_is)
    (case z_enumerate => k_is)
    (case z_zip => k_is)
    (case a_OPS => k_is)
    (case a_LAYING => k_is)
    case w_OPS =>
      refine ⟨_, _, _, (by k_is), rfl, rfl, (by decide), ?_⟩
      repeat (first | exact .nil | refine .cons ⟨_, rfl⟩ ?_)
    case w_LAYING =>
      refine ⟨_, _, _, (by k_is), rfl, rfl, (by decide), ?_⟩
      repeat (first | exact .nil | refine .cons ⟨_, rfl⟩ ?_)
