import PyProof.Rows.All
import Wide.All
import OpenK.AllK
import Wide.FinOn
import Lean
import PySem.Challenge.RW_og0091_01
set_option Elab.async false

/-! LookA -/
section
open PySem PySem.W PyProof.Rows
set_option maxRecDepth 100000
namespace Og91

theorem contains_false {L : List Str} {x : Str} {c : Nat} (hx : x.cps.toList.head? = some c) (h : L.all (fun n => n.cps.toList.head? != some c) = true) : L.contains x = false := by
  rw [Bool.eq_false_iff]
  intro e
  have hm : x ∈ L := by simpa using e
  have := List.all_eq_true.mp h x hm
  rw [hx] at this
  simp at this

theorem opens_false {x p : Str} {c d : Nat} {r : List Nat} (hx : x.cps.toList.head? = some c) (hp : p.cps.toList = d :: r) (hcd : c ≠ d) : x.opensWith p = false := by
  unfold Str.opensWith
  rw [Bool.eq_false_iff]
  intro e
  have e' : (x.cps.extract 0 p.cps.size).toList = p.cps.toList := by rw [eq_of_beq e]
  rw [hp] at e'
  simp only [Array.toList_extract] at e'
  cases hl : x.cps.toList with
  | nil => rw [hl] at hx; cases hx
  | cons a t =>
    rw [hl] at hx e'
    have : p.cps.size = r.length + 1 := by rw [← Array.length_toList, hp]; rfl
    rw [this] at e'
    simp at e' hx
    omega

/-- a text that opens with a blank and holds no brace is looked through -/
theorem look_blank {lk : Look} (hs : lk.strict = false) (hf : lk.foot = none) (hb : lk.but = none) {x : Str} (hx : x.cps.toList.head? = some 32) (hbr : x.cps.toList.all (fun c => !(c == 123 || c == 125)) = true) (hd : x.cps.toList.any (fun c => c ≤ 32) = true) : lk.str x = true := by
  have h1 : attrL x = true := by
    unfold attrL
    rw [contains_false hx (by decide +kernel), opens_false (d := 95) (r := [95]) hx (by decide +kernel) (by decide)]
    rfl
  have h2 : lk.word x = true := by
    unfold Look.word
    rw [h1, hs, hf, hb]
    rfl
  have h3 : roadStr x = false := by
    unfold roadStr
    have a1 : x.cps.any (fun c => c == 123 || c == 125) = false := by
      rw [← Array.any_toList, Bool.eq_false_iff]
      intro e
      obtain ⟨c, hc, e⟩ := List.any_eq_true.mp e
      have := List.all_eq_true.mp hbr c hc
      rw [e] at this
      cases this
    rw [a1, ← Array.any_toList (p := fun c => decide (c ≤ 32)), hd]
    simp
  unfold Look.str
  rw [h2, h3]
  simp

def lkT : Look := { strict := false, foot := none, bare := [] }

def theBody : List Stmt := PySem.Challenge.pw_og0091_01.main.body

def resOf : Stmt → Str
  | .Assign _ (.Constant (.str x) _ _) _ => x
  | _ => ""
def resStr : Str := resOf (theBody.getD 7 (.Pass ⟨0,0,0,0⟩))
def headIs (x : Str) (c : Nat) : Bool := x.cps.toList.head? == some c
def noBrace (x : Str) : Bool := x.cps.toList.all (fun c => !(c == 123 || c == 125))
def hasLow (x : Str) : Bool := x.cps.toList.any (fun c => c ≤ 32)
end Og91
open Og91
set_option maxHeartbeats 4000000
namespace Og91
theorem res_head : headIs resStr 32 = true := by k_qdec
theorem res_brace : noBrace resStr = true := by k_qdec
theorem res_low : hasLow resStr = true := by k_qdec

theorem allThrough : (importedModules theBody).all cThrough.contains = true := by k_qdec
theorem noneRead : (["vars", "dir", "locals"] : List Str).all (fun n => !readsOut PySem.Challenge.pw_og0091_01 theBody n) = true := by k_qdec
theorem res_str : lkT.str resStr = true := look_blank rfl rfl rfl (eq_of_beq res_head) res_brace res_low
def resStmt : Stmt := theBody.getD 7 (.Pass ⟨0,0,0,0⟩)
theorem look_assign {lk : Look} {n x : Str} {p q r : Pos} {u : Nat} (hf : lk.foot = none) (hx : lk.str x = true) (hn : lk.name n = true) : noRoadLS lk (.Assign [.Name n p] (.Constant (.str x) u q) r) = true := by
  have e : noRoadLS lk (.Assign [.Name n p] (.Constant (.str x) u q) r) = (lk.stores [.Name n p] && (lk.name n && true) && lk.str x) := by kernel_rfl
  rw [e, hx, hn]
  simp [Look.stores, hf]
theorem looks_cons (lk : Look) (x : Stmt) (r : List Stmt) : noRoadLSs lk (x :: r) = (noRoadLS lk x && noRoadLSs lk r) := by kernel_rfl
theorem looks_nil (lk : Look) : noRoadLSs lk [] = true := by kernel_rfl
theorem res_look : noRoadLS lkT resStmt = true := look_assign (x := resStr) rfl res_str (by k_qdec)
theorem body_cut : theBody = theBody.take 7 ++ resStmt :: theBody.drop 8 := by rfl
theorem looks_append (lk : Look) (a b : List Stmt) : noRoadLSs lk (a ++ b) = (noRoadLSs lk a && noRoadLSs lk b) := by
  induction a with
  | nil => rw [List.nil_append, looks_nil, Bool.true_and]
  | cons x r ih => rw [List.cons_append, looks_cons, looks_cons, ih, Bool.and_assoc]
theorem body_a : noRoadLSs lkT (theBody.take 7) = true := by k_qdec
theorem body_b : noRoadLSs lkT (theBody.drop 8) = true := by k_qdec
theorem body_look : noRoadLSs lkT theBody = true := by
  rw [body_cut, looks_append, looks_cons, body_a, res_look, body_b]; rfl
theorem body_looked : noRoadLSs { strict := !(importedModules PySem.Challenge.rw_og0091_01.row.prog.main.body).all cThrough.contains, foot := none, bare := (["vars", "dir", "locals"] : List Str).filter (readsOut PySem.Challenge.rw_og0091_01.row.prog PySem.Challenge.rw_og0091_01.row.prog.main.body) } PySem.Challenge.rw_og0091_01.row.prog.main.body = true := by
  have e1 := allThrough
  have e2 : (["vars", "dir", "locals"] : List Str).filter (readsOut PySem.Challenge.pw_og0091_01 theBody) = [] := List.filter_eq_nil_iff.mpr fun a ha => by
    have := List.all_eq_true.mp noneRead a ha
    simpa using this
  show noRoadLSs { strict := !(importedModules theBody).all cThrough.contains, foot := none, bare := (["vars", "dir", "locals"] : List Str).filter (readsOut PySem.Challenge.pw_og0091_01 theBody) } theBody = true
  rw [e1, e2]
  exact body_look

set_option maxHeartbeats 4000000 in
theorem well : PySem.Challenge.rw_og0091_01.wellSaid = true := by
  unfold OpenLaw.wellSaid OpenRow.wellSaid OpenRow.partSaid looksOpen
  repeat' (first | with_reducible exact body_looked | with_reducible refine look_both ?_ ?_)
  all_goals k_qdec
end Og91
end

/-! HookB -/
section
open PySem PySem.W PySem.Calls PyProof.Rows
set_option maxRecDepth 100000
namespace Og91

def blankV : Value → Value
  | .str _ t => .str ⟨#[]⟩ t
  | v => v
def blankE (n : Str) (e : DictEntry) : DictEntry := match e.key.isStr n with
  | true => ⟨e.hash, e.key, blankV e.val⟩
  | false => e
/-- a dict's object, the text under one name struck -/
def blankO (n : Str) (o : Obj) : Obj := match o with
  | ⟨c, d, .dict es k, sl⟩ => ⟨c, d, .dict (es.toList.map (blankE n)).toArray k, sl⟩
  | o => o
def blankAt (n : Str) (a : Addr) (o : Obj) : Obj := match Nat.beq a mainNs with
  | true => blankO n o
  | false => o


/-- the same, told by recursors alone, once for each side of the one check (a shared head would have the check compare what is struck) -/
noncomputable def stripH (n : Str) (a : Addr) (o : Obj) : Obj :=
  @Bool.rec (fun _ => Obj) o (@Obj.rec (fun _ => Obj) (fun c d da sl => Obj.mk c d (@Data.rec (fun _ => Data) .plain (fun v => .prim v) (fun i e => .seq i e)
    (fun es k => .dict (List.toArray (@List.rec DictEntry (fun _ => List DictEntry) [] (fun e _ r => @DictEntry.rec (fun _ => List DictEntry)
      (fun h key v => List.cons (DictEntry.mk h key (@Bool.rec (fun _ => Value) v (@Value.rec (fun _ => Value) .none .ellipsis .notImplemented (fun b => .bool b) (fun i t => .int i t) (fun b t => .float b t) (fun _ t => .str ⟨#[]⟩ t) (fun b t => .bytes b t) (fun x => .type x) (fun x => .builtin x) (fun x => .ref x) v) (key.isStr n))) r) e)
      (@Array.rec DictEntry (fun _ => List DictEntry) (fun l => l) es))) k)
    (fun es k tb => .set es k tb) (fun b x => .bytearray b x) (fun v => .cell v) (fun f => .func f) (fun c => .cls c) (fun vs => .fields vs) .freed da) sl) o) (Nat.beq a mainNs)
noncomputable def stripK (n : Str) (a : Addr) (o : Obj) : Obj :=
  @Bool.rec (fun _ => Obj) o (@Obj.rec (fun _ => Obj) (fun c d da sl => Obj.mk c d (@Data.rec (fun _ => Data) .plain (fun v => .prim v) (fun i e => .seq i e)
    (fun es k => .dict (List.toArray (@List.rec DictEntry (fun _ => List DictEntry) [] (fun e _ r => @DictEntry.rec (fun _ => List DictEntry)
      (fun h key v => List.cons (DictEntry.mk h key (@Bool.rec (fun _ => Value) v (@Value.rec (fun _ => Value) .none .ellipsis .notImplemented (fun b => .bool b) (fun i t => .int i t) (fun b t => .float b t) (fun _ t => .str ⟨#[]⟩ t) (fun b t => .bytes b t) (fun x => .type x) (fun x => .builtin x) (fun x => .ref x) v) (key.isStr n))) r) e)
      (@Array.rec DictEntry (fun _ => List DictEntry) (fun l => l) es))) k)
    (fun es k tb => .set es k tb) (fun b x => .bytearray b x) (fun v => .cell v) (fun f => .func f) (fun c => .cls c) (fun vs => .fields vs) .freed da) sl) o) (Nat.beq a mainNs)
theorem stripH_eq (n : Str) (a : Addr) (o : Obj) : stripH n a o = blankAt n a o := by
  unfold stripH blankAt
  cases Nat.beq a mainNs with
  | false => rfl
  | true =>
    obtain ⟨c, d, da, sl⟩ := o
    cases da with
    | dict es k =>
      obtain ⟨l⟩ := es
      show Obj.mk c d (.dict (List.toArray (@List.rec DictEntry (fun _ => List DictEntry) [] _ l)) k) sl = Obj.mk c d (.dict (List.toArray (l.map (blankE n))) k) sl
      congr 3
      induction l with
      | nil => rfl
      | cons e r ih =>
        obtain ⟨h, key, v⟩ := e
        rw [List.map_cons, ← ih]
        show List.cons _ _ = List.cons _ _
        congr 1
        unfold blankE
        dsimp only
        cases key.isStr n with
        | false => rfl
        | true => cases v <;> rfl
    | _ => rfl
theorem stripK_eq (n : Str) (a : Addr) (o : Obj) : stripK n a o = blankAt n a o := stripH_eq n a o

def BlankIn (K : Frag) (n : Str) (h : Heap) : Prop := ∀ a o, K.lookup a = some o → ∃ o', h.get? a = some o' ∧ blankAt n a o' = blankAt n a o
theorem blank_in_of {K : Frag} {n : Str} {h : Heap} : ∀ {as : List Addr}, as = K.map (·.1) → as.map (fun a => (h.get? a).map (stripH n a)) = K.map (fun p => some (stripK n p.1 p.2)) → BlankIn K n h := by
  intro as e1 e2 a o e
  subst e1
  induction K with
  | nil => cases e
  | cons p r ih =>
    obtain ⟨b, x⟩ := p
    simp only [List.map_cons, List.cons.injEq] at e2
    simp only [List.lookup] at e
    split at e
    · rename_i q
      cases e
      rw [beq_iff_eq.mp q]
      obtain ⟨o', h1, h2⟩ := Option.map_eq_some_iff.mp e2.1
      exact ⟨o', h1, by rw [← stripH_eq, h2, stripK_eq]⟩
    · exact ih e e2.2

noncomputable def bHook (n : Str) (K : Params → Frag) (as : List Addr) (e : ∀ P, as = (K P).map (·.1)) (ts : List Addr) : Hook where
  α := List (Option Obj) × List (Option Obj)
  obs := fun s => (as.map (fun a => (s.heap.get? a).map (stripH n a)), ts.map s.heap.get?)
  val := fun w => ((K w.params).map fun p => some (stripK n p.1 p.2), ts.map fun _ => some (tabObj #[]))
  says := fun w h => BlankIn (K w.params) n h ∧ ∀ P ∈ ts, h.get? P = some (tabObj #[])
  of := fun _ _ x => ⟨blank_in_of (e _) (Prod.mk.inj x).1, List.map_inj_left.mp (Prod.mk.inj x).2⟩
  keeps := fun _ _ _ x k => ⟨fun a o q => let ⟨o', q1, q2⟩ := x.1 a o q; ⟨o', k _ _ q1, q2⟩, fun P hP => k _ _ (x.2 P hP)⟩

theorem blankE_key (n : Str) (e : DictEntry) : (blankE n e).key = e.key := by
  unfold blankE; split <;> rfl
theorem blank_rest {n : Str} : ∀ {es es' : List DictEntry}, es'.map (blankE n) = es.map (blankE n) → es.all (fun e => !e.key.isStr n) = true → es' = es
  | [], [], _, _ => rfl
  | [], _ :: _, h, _ => by cases h
  | _ :: _, [], h, _ => by cases h
  | a :: r, a' :: r', h, c => by
    simp only [List.map_cons, List.cons.injEq] at h
    simp only [List.all_cons, Bool.and_eq_true, Bool.not_eq_true'] at c
    have hk : a'.key = a.key := by rw [← blankE_key n a', h.1, blankE_key]
    have e1 : blankE n a = a := by unfold blankE; rw [c.1]
    have e2 : blankE n a' = a' := by unfold blankE; rw [hk, c.1]
    rw [blank_rest h.2 c.2, ← e1, ← h.1, e2]
def oneKey (n : Str) : List DictEntry → Bool
  | [] => true
  | e :: r => match e.key.isStr n with
    | true => r.all fun e => !e.key.isStr n
    | false => oneKey n r
theorem blank_back {n X : Str} {t t' : Tok} : ∀ {es es' : List DictEntry}, es'.map (blankE n) = es.map (blankE n) → oneKey n es = true →
    (∀ e, es'.find? (fun e => e.key.isStr n) = some e → e.val = .str X t') → (∀ e, es.find? (fun e => e.key.isStr n) = some e → e.val = .str X t) → es' = es
  | [], [], _, _, _, _ => rfl
  | [], _ :: _, h, _, _, _ => by cases h
  | _ :: _, [], h, _, _, _ => by cases h
  | a :: r, a' :: r', h, c, f', f => by
    simp only [List.map_cons, List.cons.injEq] at h
    have hk : a'.key = a.key := by rw [← blankE_key n a', h.1, blankE_key]
    unfold oneKey at c
    cases q : a.key.isStr n with
    | true =>
      rw [q] at c
      have e1 := f a (by rw [List.find?_cons, q])
      have e2 := f' a' (by rw [List.find?_cons, hk, q])
      have h1 := h.1
      unfold blankE at h1
      rw [hk, q, e1, e2] at h1
      simp only [blankV, DictEntry.mk.injEq, Value.str.injEq, true_and] at h1
      rw [blank_rest h.2 c]
      obtain ⟨hh, kk, vv⟩ := a
      obtain ⟨hh', kk', vv'⟩ := a'
      simp only at h1 e1 e2 hk
      rw [e1, e2, hk, h1.1, h1.2]
    | false =>
      rw [q] at c
      have e1 : blankE n a = a := by unfold blankE; rw [q]
      have e2 : blankE n a' = a' := by unfold blankE; rw [hk, q]
      have := blank_back h.2 c (fun e he => f' e (by rw [List.find?_cons, hk, q]; exact he)) (fun e he => f e (by rw [List.find?_cons, q]; exact he))
      rw [this, ← e1, ← h.1, e2]

def mainOk (K : Frag) (n : Str) : Bool := match K.lookup mainNs with
  | some ⟨_, _, .dict es _, _⟩ => oneKey n es.toList && (match es.toList.find? (fun e => e.key.isStr n) with | some ⟨_, _, .str _ _⟩ => true | _ => false)
  | _ => false
def mainVal (K : Frag) (n : Str) : Option Str := match K.lookup mainNs with
  | some ⟨_, _, .dict es _, _⟩ => (match es.toList.find? (fun e => e.key.isStr n) with | some ⟨_, _, .str X _⟩ => some X | _ => none)
  | _ => none
/-- what was struck is told by the top's own facts -/
theorem in_of_blank {K : Frag} {n X : Str} {t : Tok} {h : Heap} {mg : Str → Option Value} (B : BlankIn K n h) (G : h.Ns mainGlobals mg) (hv : mg n = some (.str X t)) (hK : mainOk K n = true) (hX : mainVal K n = some X) : K.In h := by
  intro a o e
  obtain ⟨o', h1, h2⟩ := B a o e
  by_cases ha : a = mainNs
  · subst ha
    obtain ⟨oG, esG, epG, g1, g2, _, g4⟩ := G
    obtain rfl : o' = oG := Option.some.inj (h1.symm.trans g1)
    have g4 := (g4 n).trans hv
    unfold mainOk at hK
    unfold mainVal at hX
    rw [e] at hK hX
    obtain ⟨c, d, da, sl⟩ := o
    cases da with
    | dict es k =>
      dsimp only at hK hX
      obtain ⟨c', d', da', sl'⟩ := o'
      dsimp only at g2
      subst g2
      have h2 : blankO n ⟨c', d', .dict esG epG, sl'⟩ = blankO n ⟨c, d, .dict es k, sl⟩ := h2
      simp only [blankO, Obj.mk.injEq, Data.dict.injEq] at h2
      obtain ⟨rfl, rfl, ⟨h3, rfl⟩, rfl⟩ := h2
      have h3 : esG.toList.map (blankE n) = es.toList.map (blankE n) := by
        have := congrArg Array.toList h3
        simpa using this
      obtain ⟨k1, k2⟩ := Bool.and_eq_true_iff.mp hK
      have fE : ∃ t', ∀ e, es.toList.find? (fun e => e.key.isStr n) = some e → e.val = .str X t' := by
        cases q : es.toList.find? (fun e => e.key.isStr n) with
        | none => rw [q] at hX; cases hX
        | some e =>
          rw [q] at hX k2
          obtain ⟨hh, kk, vv⟩ := e
          cases vv with
          | str Y t' =>
            simp only [Option.some.injEq] at hX
            subst hX
            refine ⟨t', fun e he => ?_⟩
            cases he
            rfl
          | _ => cases hX
      obtain ⟨t', fE⟩ := fE
      have := blank_back h3 k1 (t' := t) (X := X) (fun e he => by
        have q : nsFind esG n = some (.str X t) := g4
        unfold nsFind findBy at q
        rw [← Array.find?_toList, he] at q
        exact Option.some.inj q) fE
      rw [h1]
      congr 2
      have : esG = es := Array.ext' this
      rw [this]
    | _ => cases hK
  · have e1 : ∀ o, blankAt n a o = o := fun o => by
      unfold blankAt
      have : Nat.beq a mainNs = false := by
        cases q : Nat.beq a mainNs with
        | false => rfl
        | true => exact absurd (Nat.eq_of_beq_eq_true q) ha
      rw [this]
    rw [e1, e1] at h2
    rw [h1, h2]
end Og91
namespace Og91
theorem kx_of {K : Params → Frag} {as : List Addr} {e : ∀ P, as = (K P).map (·.1)} {ts : List Addr} {w : World} {h : Heap} {q : Program} {loose : List Str} {mean : ExcName → Option Value} {mg mb : Str → Option Value}
    (Y : (bHook "RESERVED" K as e ts).says w h) (T : Top q loose mean mg mb h) (hv : valOf q "RESERVED" = some (.str resStr)) (h1 : mainOk (K w.params) "RESERVED" = true) (h2 : mainVal (K w.params) "RESERVED" = some resStr) : (K w.params).In h := by
  obtain ⟨v, hm, rd⟩ := T.const "RESERVED" _ hv
  have rd := rd h
  cases rd with
  | str _ t => exact in_of_blank Y.1 T.g hm h1 h2
theorem tabs_of {K : Params → Frag} {as : List Addr} {e : ∀ P, as = (K P).map (·.1)} {ts : List Addr} {w : World} {h : Heap} (Y : (bHook "RESERVED" K as e ts).says w h) : ∀ P ∈ ts, h.get? P = some (tabObj #[]) := Y.2
end Og91
end

/-! HeadF -/
section
open PySem PySem.W PySem.Calls PyProof.Rows
set_option maxRecDepth 100000
set_option maxHeartbeats 8000000
set_option linter.unusedVariables false
namespace Og91
/-- the law's program, its doubled name lines struck -/
def vw : Program := view PySem.Challenge.pw_og0091_01 [0, 2, 4, 5, 7, 8, 9, 11, 13, 14, 15, 16, 17, 18]
def lo : List Str := ["LedgerError", "Token"]
/-- the program's lines, in the library's fast form (as «well» above has laid it) -/
noncomputable def fastBody : List Stmt := PySem.W.Fast.tw6969200466090163588.main.body
def argsOf : Stmt → Arguments
  | .FunctionDef _ a .. => a
  | _ => ⟨[], [], none, [], [], none, []⟩
def linesOf : Stmt → List Stmt
  | .FunctionDef _ _ b .. => b
  | .ClassDef _ _ _ b .. => b
  | _ => []
def scopeIn : Stmt → Scope
  | .FunctionDef _ _ _ _ _ _ s .. => s
  | _ => { kind := .module, names := [], isGenerator := false, isCoroutine := false, more := [] }
def noLine : Stmt := .Pass ⟨0,0,0,0⟩
noncomputable def argsA (i : Nat) : Arguments := argsOf (fastBody.getD i noLine)
noncomputable def bodyA (i : Nat) : List Stmt := linesOf (fastBody.getD i noLine)
noncomputable def scopeA (i : Nat) : Scope := scopeIn (fastBody.getD i noLine)
noncomputable def argsB (i j : Nat) : Arguments := argsOf ((bodyA i).getD j noLine)
noncomputable def bodyB (i j : Nat) : List Stmt := linesOf ((bodyA i).getD j noLine)
noncomputable def scopeB (i j : Nat) : Scope := scopeIn ((bodyA i).getD j noLine)
noncomputable def resT : Str := resOf (fastBody.getD 7 noLine)
def ke (P : Params) (n : Str) (t : Tok) (v : Value) : DictEntry := ⟨PyData.keyHash P n, .str n t, v⟩
def cobj (vs : Array Value) : Obj := { cls := Value.type "code", data := Data.fields vs }
/-! the objects behind the top, one by one -/
noncomputable def ob4 (P : Params) : Obj := { cls := Value.type "tuple", data := Data.seq #[] }
noncomputable def ob5 (P : Params) : Obj := { cls := Value.none, data := Data.fields #[] }
noncomputable def ob6 (P : Params) : Obj := cobj #[Value.str "<module>" 182, Value.str "<module>" 183, Value.str "/claim/cut.py" 184, Value.int 1 0, Value.int 0 0, Value.int 0 0, Value.int 0 0, Value.int 0 0, Value.ref 11, Value.bool false, Value.int 181 0, Value.ref 12, Value.none, Value.none, Value.none, Value.none, Value.int 185 0, Value.int 1 0, Value.str "/claim/cut.py" 186]
noncomputable def ob7 (P : Params) : Obj := { cls := Value.type "frame", slots := #[some (Value.ref 13), some (Value.ref 3), some (Value.ref 3), none, some (Value.str "__main__" 164), none, some (Value.ref 0)] }
noncomputable def ob10 (P : Params) : Obj := { cls := Value.none, data := Data.dict #[ke P "type.__subclasses__.Exception.0" 243 (Value.int 54 0), ke P "type.__subclasses__.Exception.n" 244 (Value.int 1 0)] 2 }
noncomputable def ob11 (P : Params) : Obj := { cls := Value.type "dict", data := Data.dict #[ke P "__name__" 165 (Value.str "ledgerspeak.errors" 205), ke P "__doc__" 166 (Value.none), ke P "__package__" 167 (Value.none), ke P "__loader__" 168 (Value.builtin "__main__.__loader__#opaque"), ke P "__spec__" 169 (Value.none), ke P "__annotations__" 170 (Value.ref 6), ke P "__builtins__" 171 (Value.ref 4), ke P "__file__" 173 (Value.str "/claim/cut.py" 172), ke P "__cached__" 174 (Value.none), ke P "_wall" 193 (Value.ref 21), ke P "skip_end" 204 (Value.ref 28), ke P "LedgerError" 246 (Value.ref 54)] 12 }
noncomputable def ob12 (P : Params) : Obj := { cls := Value.none, data := Data.fields #[Value.int 1 0, Value.int 0 0, Value.ref 20, Value.int 5 0, Value.int 0 0, Value.ref 27, Value.int 15 0, Value.int 0 0, Value.ref 34] }
noncomputable def ob13 (P : Params) : Obj := { cls := Value.type "tuple", data := Data.seq #[] }
noncomputable def ob14 (P : Params) : Obj := { cls := Value.none, data := Data.fields #[] }
noncomputable def ob15 (P : Params) : Obj := { cls := Value.type "tuple", data := Data.seq #[Value.str "k" 190] }
noncomputable def ob16 (P : Params) : Obj := { cls := Value.type "tuple", data := Data.seq #[] }
noncomputable def ob17 (P : Params) : Obj := { cls := Value.none, data := Data.func { name := "_wall", qualname := "_wall", params := (argsA 0), body := FuncBody.stmts (bodyA 0), scope := (scopeA 0), globals := 0, closure := [], defaults := Value.none, kwdefaults := Value.none } }
noncomputable def ob18 (P : Params) : Obj := cobj #[Value.str "_wall" 187, Value.str "_wall" 188, Value.str "/claim/cut.py" 189, Value.int 1 0, Value.int 1 0, Value.int 0 0, Value.int 0 0, Value.int 3 0, Value.ref 15, Value.bool true, Value.int 181 0, Value.ref 16, Value.none, Value.ref 17, Value.ref 18, Value.ref 19, Value.int 191 0, Value.int 1 0, Value.str "/claim/cut.py" 192]
noncomputable def ob19 (P : Params) : Obj := { cls := Value.type "function", data := Data.func { name := "_wall", qualname := "_wall", params := (argsA 0), body := FuncBody.stmts (bodyA 0), scope := (scopeA 0), globals := 3, closure := [], defaults := Value.none, kwdefaults := Value.none, pyModule := Value.str "__main__" 164, code := Value.ref 20 } }
noncomputable def ob20 (P : Params) : Obj := { cls := Value.type "tuple", data := Data.seq #[] }
noncomputable def ob21 (P : Params) : Obj := { cls := Value.none, data := Data.fields #[] }
noncomputable def ob22 (P : Params) : Obj := { cls := Value.type "tuple", data := Data.seq #[Value.str "reader" 199, Value.str "name" 200, Value.str "told" 201] }
noncomputable def ob23 (P : Params) : Obj := { cls := Value.type "tuple", data := Data.seq #[] }
noncomputable def ob24 (P : Params) : Obj := { cls := Value.none, data := Data.func { name := "skip_end", qualname := "skip_end", params := (argsA 2), body := FuncBody.stmts (bodyA 2), scope := (scopeA 2), globals := 0, closure := [], defaults := Value.none, kwdefaults := Value.none } }
noncomputable def ob25 (P : Params) : Obj := cobj #[Value.str "skip_end" 196, Value.str "skip_end" 197, Value.str "/claim/cut.py" 198, Value.int 5 0, Value.int 2 0, Value.int 0 0, Value.int 0 0, Value.int 3 0, Value.ref 22, Value.bool true, Value.int 181 0, Value.ref 23, Value.none, Value.ref 24, Value.ref 25, Value.ref 26, Value.int 202 0, Value.int 5 0, Value.str "/claim/cut.py" 203]
noncomputable def ob26 (P : Params) : Obj := { cls := Value.type "function", data := Data.func { name := "skip_end", qualname := "skip_end", params := (argsA 2), body := FuncBody.stmts (bodyA 2), scope := (scopeA 2), globals := 3, closure := [], defaults := Value.none, kwdefaults := Value.none, pyModule := Value.str "ledgerspeak.program" 194, code := Value.ref 27 } }
noncomputable def ob27 (P : Params) : Obj := { cls := Value.type "tuple", data := Data.seq #[Value.type "Exception"] }
noncomputable def ob28 (P : Params) : Obj := { cls := Value.type "builtin_function_or_method", data := Data.fields #[Value.builtin "type.__prepare__", Value.type "type"] }
noncomputable def ob29 (P : Params) : Obj := { cls := Value.type "dict", data := Data.dict #[ke P "__module__" 214 (Value.str "ledgerspeak.errors" 205), ke P "__qualname__" 216 (Value.str "LedgerError" 215), ke P "__firstlineno__" 218 (Value.int 15 217), ke P "__init__" 229 (Value.ref 44), ke P "told" 236 (Value.ref 51), ke P "__static_attributes__" 239 (Value.ref 52)] 6 }
noncomputable def ob30 (P : Params) : Obj := { cls := Value.type "tuple", data := Data.seq #[] }
noncomputable def ob31 (P : Params) : Obj := { cls := Value.none, data := Data.fields #[Value.int 17 0, Value.int 4 0, Value.ref 43, Value.int 22 0, Value.int 4 0, Value.ref 50] }
noncomputable def ob32 (P : Params) : Obj := cobj #[Value.str "LedgerError" 209, Value.str "LedgerError" 210, Value.str "/claim/cut.py" 211, Value.int 15 0, Value.int 0 0, Value.int 0 0, Value.int 0 0, Value.int 0 0, Value.ref 32, Value.bool false, Value.int 181 0, Value.ref 33, Value.none, Value.none, Value.none, Value.none, Value.int 212 0, Value.int 15 0, Value.str "/claim/cut.py" 213]
noncomputable def ob33 (P : Params) : Obj := { cls := Value.type "frame", slots := #[some (Value.ref 34), some (Value.ref 3), some (Value.ref 31), none, some (Value.str "ledgerspeak.errors" 205), none, some (Value.ref 0)] }
noncomputable def ob34 (P : Params) : Obj := { cls := Value.type "tuple", data := Data.seq #[Value.int 0 219, Value.int 0 220] }
noncomputable def ob35 (P : Params) : Obj := { cls := Value.type "tuple", data := Data.seq #[Value.ref 36] }
noncomputable def ob36 (P : Params) : Obj := { cls := Value.type "tuple", data := Data.seq #[] }
noncomputable def ob37 (P : Params) : Obj := { cls := Value.none, data := Data.fields #[] }
noncomputable def ob38 (P : Params) : Obj := { cls := Value.type "tuple", data := Data.seq #[Value.str "self" 224, Value.str "what" 225, Value.str "at" 226] }
noncomputable def ob39 (P : Params) : Obj := { cls := Value.type "tuple", data := Data.seq #[] }
noncomputable def ob40 (P : Params) : Obj := { cls := Value.none, data := Data.func { name := "__init__", qualname := "LedgerError.__init__", params := (argsB 4 0), body := FuncBody.stmts (bodyB 4 0), scope := (scopeB 4 0), globals := 0, closure := [], defaults := Value.none, kwdefaults := Value.none } }
noncomputable def ob41 (P : Params) : Obj := cobj #[Value.str "__init__" 221, Value.str "LedgerError.__init__" 222, Value.str "/claim/cut.py" 223, Value.int 17 0, Value.int 3 0, Value.int 0 0, Value.int 0 0, Value.int 3 0, Value.ref 38, Value.bool true, Value.int 181 0, Value.ref 39, Value.none, Value.ref 40, Value.ref 41, Value.ref 42, Value.int 227 0, Value.int 17 0, Value.str "/claim/cut.py" 228]
noncomputable def ob42 (P : Params) : Obj := { cls := Value.type "function", data := Data.func { name := "__init__", qualname := "LedgerError.__init__", params := (argsB 4 0), body := FuncBody.stmts (bodyB 4 0), scope := (scopeB 4 0), globals := 3, closure := [], defaults := Value.ref 37, kwdefaults := Value.none, pyModule := Value.str "ledgerspeak.errors" 205, code := Value.ref 43 } }
noncomputable def ob43 (P : Params) : Obj := { cls := Value.type "tuple", data := Data.seq #[] }
noncomputable def ob44 (P : Params) : Obj := { cls := Value.none, data := Data.fields #[] }
noncomputable def ob45 (P : Params) : Obj := { cls := Value.type "tuple", data := Data.seq #[Value.str "self" 233] }
noncomputable def ob46 (P : Params) : Obj := { cls := Value.type "tuple", data := Data.seq #[] }
noncomputable def ob47 (P : Params) : Obj := { cls := Value.none, data := Data.func { name := "told", qualname := "LedgerError.told", params := (argsB 4 1), body := FuncBody.stmts (bodyB 4 1), scope := (scopeB 4 1), globals := 0, closure := [], defaults := Value.none, kwdefaults := Value.none } }
noncomputable def ob48 (P : Params) : Obj := cobj #[Value.str "told" 230, Value.str "LedgerError.told" 231, Value.str "/claim/cut.py" 232, Value.int 22 0, Value.int 1 0, Value.int 0 0, Value.int 0 0, Value.int 3 0, Value.ref 45, Value.bool true, Value.int 181 0, Value.ref 46, Value.none, Value.ref 47, Value.ref 48, Value.ref 49, Value.int 234 0, Value.int 22 0, Value.str "/claim/cut.py" 235]
noncomputable def ob49 (P : Params) : Obj := { cls := Value.type "function", data := Data.func { name := "told", qualname := "LedgerError.told", params := (argsB 4 1), body := FuncBody.stmts (bodyB 4 1), scope := (scopeB 4 1), globals := 3, closure := [], defaults := Value.none, kwdefaults := Value.none, pyModule := Value.str "ledgerspeak.errors" 205, code := Value.ref 50 } }
noncomputable def ob50 (P : Params) : Obj := { cls := Value.type "tuple", data := Data.seq #[Value.str "at" 237, Value.str "what" 238] }
noncomputable def ob51 (P : Params) : Obj := { cls := Value.type "dict", data := Data.dict #[ke P "__module__" 214 (Value.str "ledgerspeak.errors" 205), ke P "__firstlineno__" 218 (Value.int 15 217), ke P "__init__" 229 (Value.ref 44), ke P "told" 236 (Value.ref 51), ke P "__static_attributes__" 239 (Value.ref 52), ke P "__weakref__" 241 (Value.ref 55), ke P "__doc__" 242 (Value.none)] 3 }
noncomputable def ob52 (P : Params) : Obj := { cls := Value.type "type", data := Data.cls { name := "LedgerError", bases := [Value.type "Exception"], mro := [Value.ref 54, Value.type "Exception", Value.type "BaseException", Value.type "object"], ns := 53, qualname := "LedgerError" }, slots := #[some (Value.ref 29), none, some (Value.str "LedgerError" 207), some (Value.str "LedgerError" 215), some (Value.builtin "Exception.__new__"), some (Value.bool true)] }
noncomputable def ob53 (P : Params) : Obj := { cls := Value.type "getset_descriptor", data := Data.fields #[Value.str "__weakref__" 240, Value.ref 54, Value.builtin "ExceptionGroup.__weakref__", Value.none] }
noncomputable def ob54 (P : Params) : Obj := { cls := Value.type "super", data := Data.fields #[Value.ref 54, Value.ref 54, Value.ref 54] }
noncomputable def ob55 (P : Params) : Obj := { cls := Value.type "builtin_function_or_method", data := Data.fields #[Value.builtin "object.__init_subclass__", Value.ref 54] }
noncomputable def ob56 (P : Params) : Obj := { cls := Value.type "dict", data := Data.dict #[ke P "__name__" 165 (Value.str "ledgerspeak.reader" 263), ke P "__doc__" 166 (Value.none), ke P "__package__" 167 (Value.none), ke P "__loader__" 168 (Value.builtin "__main__.__loader__#opaque"), ke P "__spec__" 169 (Value.none), ke P "__annotations__" 170 (Value.ref 6), ke P "__builtins__" 171 (Value.ref 4), ke P "__file__" 173 (Value.str "/claim/cut.py" 172), ke P "__cached__" 174 (Value.none), ke P "_wall" 193 (Value.ref 21), ke P "skip_end" 204 (Value.ref 28), ke P "LedgerError" 246 (Value.ref 54), ke P "GrammarFault" 262 (Value.ref 67), ke P "RESERVED" 266 (Value.str resT 265), ke P "is_reserved" 273 (Value.ref 76)] 15 }
noncomputable def ob57 (P : Params) : Obj := { cls := Value.none, data := Data.fields #[Value.int 1 0, Value.int 0 0, Value.ref 20, Value.int 5 0, Value.int 0 0, Value.ref 27, Value.int 15 0, Value.int 0 0, Value.ref 34, Value.int 24 0, Value.int 0 0, Value.ref 63, Value.int 28 0, Value.int 0 0, Value.ref 75] }
noncomputable def ob58 (P : Params) : Obj := { cls := Value.type "type", data := Data.cls { name := "LedgerError", bases := [Value.type "Exception"], mro := [Value.ref 54, Value.type "Exception", Value.type "BaseException", Value.type "object"], ns := 53, qualname := "LedgerError", subclasses := [Value.ref 67] }, slots := #[some (Value.ref 29), none, some (Value.str "LedgerError" 207), some (Value.str "LedgerError" 215), some (Value.builtin "Exception.__new__"), some (Value.bool true)] }
noncomputable def ob59 (P : Params) : Obj := { cls := Value.type "tuple", data := Data.seq #[Value.ref 54] }
noncomputable def ob60 (P : Params) : Obj := { cls := Value.type "builtin_function_or_method", data := Data.fields #[Value.builtin "type.__prepare__", Value.type "type"] }
noncomputable def ob61 (P : Params) : Obj := { cls := Value.type "dict", data := Data.dict #[ke P "__module__" 254 (Value.str "ledgerspeak.errors" 205), ke P "__qualname__" 256 (Value.str "GrammarFault" 255), ke P "__firstlineno__" 258 (Value.int 24 257), ke P "__static_attributes__" 259 (Value.ref 65)] 4 }
noncomputable def ob62 (P : Params) : Obj := { cls := Value.type "tuple", data := Data.seq #[] }
noncomputable def ob63 (P : Params) : Obj := { cls := Value.none, data := Data.fields #[] }
noncomputable def ob64 (P : Params) : Obj := cobj #[Value.str "GrammarFault" 249, Value.str "GrammarFault" 250, Value.str "/claim/cut.py" 251, Value.int 24 0, Value.int 0 0, Value.int 0 0, Value.int 0 0, Value.int 0 0, Value.ref 61, Value.bool false, Value.int 181 0, Value.ref 62, Value.none, Value.none, Value.none, Value.none, Value.int 252 0, Value.int 24 0, Value.str "/claim/cut.py" 253]
noncomputable def ob65 (P : Params) : Obj := { cls := Value.type "frame", slots := #[some (Value.ref 63), some (Value.ref 3), some (Value.ref 60), none, some (Value.str "ledgerspeak.errors" 205), none, some (Value.ref 0)] }
noncomputable def ob66 (P : Params) : Obj := { cls := Value.type "tuple", data := Data.seq #[] }
noncomputable def ob67 (P : Params) : Obj := { cls := Value.type "dict", data := Data.dict #[ke P "__module__" 254 (Value.str "ledgerspeak.errors" 205), ke P "__firstlineno__" 258 (Value.int 24 257), ke P "__static_attributes__" 259 (Value.ref 65), ke P "__doc__" 260 (Value.none)] 2 }
noncomputable def ob68 (P : Params) : Obj := { cls := Value.type "type", data := Data.cls { name := "GrammarFault", bases := [Value.ref 54], mro := [Value.ref 67, Value.ref 54, Value.type "Exception", Value.type "BaseException", Value.type "object"], ns := 66, qualname := "GrammarFault" }, slots := #[some (Value.ref 58), none, some (Value.str "GrammarFault" 247), some (Value.str "GrammarFault" 255), some (Value.builtin "Exception.__new__"), some (Value.bool true)] }
noncomputable def ob69 (P : Params) : Obj := { cls := Value.type "super", data := Data.fields #[Value.ref 67, Value.ref 67, Value.ref 67] }
noncomputable def ob70 (P : Params) : Obj := { cls := Value.type "builtin_function_or_method", data := Data.fields #[Value.builtin "object.__init_subclass__", Value.ref 67] }
noncomputable def ob71 (P : Params) : Obj := { cls := Value.type "tuple", data := Data.seq #[] }
noncomputable def ob72 (P : Params) : Obj := { cls := Value.none, data := Data.fields #[] }
noncomputable def ob73 (P : Params) : Obj := { cls := Value.type "tuple", data := Data.seq #[Value.str "word" 270] }
noncomputable def ob74 (P : Params) : Obj := { cls := Value.type "tuple", data := Data.seq #[] }
noncomputable def ob75 (P : Params) : Obj := { cls := Value.none, data := Data.func { name := "is_reserved", qualname := "is_reserved", params := (argsA 8), body := FuncBody.stmts (bodyA 8), scope := (scopeA 8), globals := 0, closure := [], defaults := Value.none, kwdefaults := Value.none } }
noncomputable def ob76 (P : Params) : Obj := cobj #[Value.str "is_reserved" 267, Value.str "is_reserved" 268, Value.str "/claim/cut.py" 269, Value.int 28 0, Value.int 1 0, Value.int 0 0, Value.int 0 0, Value.int 3 0, Value.ref 70, Value.bool true, Value.int 181 0, Value.ref 71, Value.none, Value.ref 72, Value.ref 73, Value.ref 74, Value.int 271 0, Value.int 28 0, Value.str "/claim/cut.py" 272]
noncomputable def ob77 (P : Params) : Obj := { cls := Value.type "function", data := Data.func { name := "is_reserved", qualname := "is_reserved", params := (argsA 8), body := FuncBody.stmts (bodyA 8), scope := (scopeA 8), globals := 3, closure := [], defaults := Value.none, kwdefaults := Value.none, pyModule := Value.str "ledgerspeak.reader" 263, code := Value.ref 75 } }
noncomputable def ob78 (P : Params) : Obj := { cls := Value.type "dict", data := Data.dict #[ke P "__name__" 165 (Value.str "ledgerspeak.reader" 263), ke P "__doc__" 166 (Value.none), ke P "__package__" 167 (Value.none), ke P "__loader__" 168 (Value.builtin "__main__.__loader__#opaque"), ke P "__spec__" 169 (Value.none), ke P "__annotations__" 170 (Value.ref 6), ke P "__builtins__" 171 (Value.ref 4), ke P "__file__" 173 (Value.str "/claim/cut.py" 172), ke P "__cached__" 174 (Value.none), ke P "_wall" 193 (Value.ref 21), ke P "skip_end" 204 (Value.ref 28), ke P "LedgerError" 246 (Value.ref 54), ke P "GrammarFault" 262 (Value.ref 67), ke P "RESERVED" 266 (Value.str resT 265), ke P "is_reserved" 273 (Value.ref 76), ke P "Reader" 474 (Value.ref 245)] 16 }
noncomputable def ob79 (P : Params) : Obj := { cls := Value.none, data := Data.fields #[Value.int 1 0, Value.int 0 0, Value.ref 20, Value.int 5 0, Value.int 0 0, Value.ref 27, Value.int 15 0, Value.int 0 0, Value.ref 34, Value.int 24 0, Value.int 0 0, Value.ref 63, Value.int 28 0, Value.int 0 0, Value.ref 75, Value.int 30 0, Value.int 0 0, Value.ref 82] }
noncomputable def ob80 (P : Params) : Obj := { cls := Value.type "tuple", data := Data.seq #[] }
noncomputable def ob81 (P : Params) : Obj := { cls := Value.type "builtin_function_or_method", data := Data.fields #[Value.builtin "type.__prepare__", Value.type "type"] }
noncomputable def ob82 (P : Params) : Obj := { cls := Value.type "dict", data := Data.dict #[ke P "__module__" 281 (Value.str "ledgerspeak.reader" 263), ke P "__qualname__" 283 (Value.str "Reader" 282), ke P "__firstlineno__" 285 (Value.int 30 284), ke P "__init__" 295 (Value.ref 91), ke P "peek" 304 (Value.ref 99), ke P "is_done" 311 (Value.ref 106), ke P "fault" 319 (Value.ref 113), ke P "take" 327 (Value.ref 120), ke P "is_kind" 338 (Value.ref 128), ke P "is_word" 348 (Value.ref 135), ke P "skip" 356 (Value.ref 142), ke P "need" 364 (Value.ref 149), ke P "one_of" 372 (Value.ref 156), ke P "word" 379 (Value.ref 163), ke P "is_name" 388 (Value.ref 171), ke P "name" 395 (Value.ref 178), ke P "names" 402 (Value.ref 185), ke P "is_sign" 412 (Value.ref 193), ke P "skip_sign" 420 (Value.ref 200), ke P "need_sign" 428 (Value.ref 207), ke P "is_number" 435 (Value.ref 214), ke P "signed" 442 (Value.ref 221), ke P "whole" 449 (Value.ref 228), ke P "literal" 456 (Value.ref 235), ke P "octets" 463 (Value.ref 242), ke P "__static_attributes__" 467 (Value.ref 243)] 26 }
noncomputable def ob83 (P : Params) : Obj := { cls := Value.type "tuple", data := Data.seq #[] }
noncomputable def ob84 (P : Params) : Obj := { cls := Value.none, data := Data.fields #[Value.int 32 0, Value.int 4 0, Value.ref 90, Value.int 37 0, Value.int 4 0, Value.ref 98, Value.int 42 0, Value.int 4 0, Value.ref 105, Value.int 45 0, Value.int 4 0, Value.ref 112, Value.int 50 0, Value.int 4 0, Value.ref 119, Value.int 57 0, Value.int 4 0, Value.ref 127, Value.int 61 0, Value.int 4 0, Value.ref 134, Value.int 69 0, Value.int 4 0, Value.ref 141, Value.int 72 0, Value.int 4 0, Value.ref 148, Value.int 75 0, Value.int 4 0, Value.ref 155, Value.int 78 0, Value.int 4 0, Value.ref 162, Value.int 83 0, Value.int 4 0, Value.ref 170, Value.int 86 0, Value.int 4 0, Value.ref 177, Value.int 91 0, Value.int 4 0, Value.ref 184, Value.int 94 0, Value.int 4 0, Value.ref 192, Value.int 97 0, Value.int 4 0, Value.ref 199, Value.int 103 0, Value.int 4 0, Value.ref 206, Value.int 107 0, Value.int 4 0, Value.ref 213, Value.int 110 0, Value.int 4 0, Value.ref 220, Value.int 113 0, Value.int 4 0, Value.ref 227, Value.int 116 0, Value.int 4 0, Value.ref 234, Value.int 121 0, Value.int 4 0, Value.ref 241] }
noncomputable def ob85 (P : Params) : Obj := cobj #[Value.str "Reader" 276, Value.str "Reader" 277, Value.str "/claim/cut.py" 278, Value.int 30 0, Value.int 0 0, Value.int 0 0, Value.int 0 0, Value.int 0 0, Value.ref 80, Value.bool false, Value.int 181 0, Value.ref 81, Value.none, Value.none, Value.none, Value.none, Value.int 279 0, Value.int 30 0, Value.str "/claim/cut.py" 280]
noncomputable def ob86 (P : Params) : Obj := { cls := Value.type "frame", slots := #[some (Value.ref 82), some (Value.ref 3), some (Value.ref 79), none, some (Value.str "ledgerspeak.reader" 263), none, some (Value.ref 0)] }
noncomputable def ob87 (P : Params) : Obj := { cls := Value.type "tuple", data := Data.seq #[Value.int 0 286] }
noncomputable def ob88 (P : Params) : Obj := { cls := Value.type "tuple", data := Data.seq #[] }
noncomputable def ob89 (P : Params) : Obj := { cls := Value.none, data := Data.fields #[] }
noncomputable def ob90 (P : Params) : Obj := { cls := Value.type "tuple", data := Data.seq #[Value.str "self" 290, Value.str "tokens" 291, Value.str "at" 292] }
noncomputable def ob91 (P : Params) : Obj := { cls := Value.type "tuple", data := Data.seq #[] }
noncomputable def ob92 (P : Params) : Obj := { cls := Value.none, data := Data.func { name := "__init__", qualname := "Reader.__init__", params := (argsB 9 0), body := FuncBody.stmts (bodyB 9 0), scope := (scopeB 9 0), globals := 0, closure := [], defaults := Value.none, kwdefaults := Value.none } }
noncomputable def ob93 (P : Params) : Obj := cobj #[Value.str "__init__" 287, Value.str "Reader.__init__" 288, Value.str "/claim/cut.py" 289, Value.int 32 0, Value.int 3 0, Value.int 0 0, Value.int 0 0, Value.int 3 0, Value.ref 85, Value.bool true, Value.int 181 0, Value.ref 86, Value.none, Value.ref 87, Value.ref 88, Value.ref 89, Value.int 293 0, Value.int 32 0, Value.str "/claim/cut.py" 294]
noncomputable def ob94 (P : Params) : Obj := { cls := Value.type "function", data := Data.func { name := "__init__", qualname := "Reader.__init__", params := (argsB 9 0), body := FuncBody.stmts (bodyB 9 0), scope := (scopeB 9 0), globals := 3, closure := [], defaults := Value.ref 84, kwdefaults := Value.none, pyModule := Value.str "ledgerspeak.reader" 263, code := Value.ref 90 } }
noncomputable def ob95 (P : Params) : Obj := { cls := Value.type "tuple", data := Data.seq #[Value.int 0 296] }
noncomputable def ob96 (P : Params) : Obj := { cls := Value.type "tuple", data := Data.seq #[] }
noncomputable def ob97 (P : Params) : Obj := { cls := Value.none, data := Data.fields #[] }
noncomputable def ob98 (P : Params) : Obj := { cls := Value.type "tuple", data := Data.seq #[Value.str "self" 300, Value.str "ahead" 301] }
noncomputable def ob99 (P : Params) : Obj := { cls := Value.type "tuple", data := Data.seq #[] }
noncomputable def ob100 (P : Params) : Obj := { cls := Value.none, data := Data.func { name := "peek", qualname := "Reader.peek", params := (argsB 9 1), body := FuncBody.stmts (bodyB 9 1), scope := (scopeB 9 1), globals := 0, closure := [], defaults := Value.none, kwdefaults := Value.none } }
noncomputable def ob101 (P : Params) : Obj := cobj #[Value.str "peek" 297, Value.str "Reader.peek" 298, Value.str "/claim/cut.py" 299, Value.int 37 0, Value.int 2 0, Value.int 0 0, Value.int 0 0, Value.int 3 0, Value.ref 93, Value.bool true, Value.int 181 0, Value.ref 94, Value.none, Value.ref 95, Value.ref 96, Value.ref 97, Value.int 302 0, Value.int 37 0, Value.str "/claim/cut.py" 303]
noncomputable def ob102 (P : Params) : Obj := { cls := Value.type "function", data := Data.func { name := "peek", qualname := "Reader.peek", params := (argsB 9 1), body := FuncBody.stmts (bodyB 9 1), scope := (scopeB 9 1), globals := 3, closure := [], defaults := Value.ref 92, kwdefaults := Value.none, pyModule := Value.str "ledgerspeak.reader" 263, code := Value.ref 98 } }
noncomputable def ob103 (P : Params) : Obj := { cls := Value.type "tuple", data := Data.seq #[] }
noncomputable def ob104 (P : Params) : Obj := { cls := Value.none, data := Data.fields #[] }
noncomputable def ob105 (P : Params) : Obj := { cls := Value.type "tuple", data := Data.seq #[Value.str "self" 308] }
noncomputable def ob106 (P : Params) : Obj := { cls := Value.type "tuple", data := Data.seq #[] }
noncomputable def ob107 (P : Params) : Obj := { cls := Value.none, data := Data.func { name := "is_done", qualname := "Reader.is_done", params := (argsB 9 2), body := FuncBody.stmts (bodyB 9 2), scope := (scopeB 9 2), globals := 0, closure := [], defaults := Value.none, kwdefaults := Value.none } }
noncomputable def ob108 (P : Params) : Obj := cobj #[Value.str "is_done" 305, Value.str "Reader.is_done" 306, Value.str "/claim/cut.py" 307, Value.int 42 0, Value.int 1 0, Value.int 0 0, Value.int 0 0, Value.int 3 0, Value.ref 100, Value.bool true, Value.int 181 0, Value.ref 101, Value.none, Value.ref 102, Value.ref 103, Value.ref 104, Value.int 309 0, Value.int 42 0, Value.str "/claim/cut.py" 310]
noncomputable def ob109 (P : Params) : Obj := { cls := Value.type "function", data := Data.func { name := "is_done", qualname := "Reader.is_done", params := (argsB 9 2), body := FuncBody.stmts (bodyB 9 2), scope := (scopeB 9 2), globals := 3, closure := [], defaults := Value.none, kwdefaults := Value.none, pyModule := Value.str "ledgerspeak.reader" 263, code := Value.ref 105 } }
noncomputable def ob110 (P : Params) : Obj := { cls := Value.type "tuple", data := Data.seq #[] }
noncomputable def ob111 (P : Params) : Obj := { cls := Value.none, data := Data.fields #[] }
noncomputable def ob112 (P : Params) : Obj := { cls := Value.type "tuple", data := Data.seq #[Value.str "self" 315, Value.str "what" 316] }
noncomputable def ob113 (P : Params) : Obj := { cls := Value.type "tuple", data := Data.seq #[] }
noncomputable def ob114 (P : Params) : Obj := { cls := Value.none, data := Data.func { name := "fault", qualname := "Reader.fault", params := (argsB 9 3), body := FuncBody.stmts (bodyB 9 3), scope := (scopeB 9 3), globals := 0, closure := [], defaults := Value.none, kwdefaults := Value.none } }
noncomputable def ob115 (P : Params) : Obj := cobj #[Value.str "fault" 312, Value.str "Reader.fault" 313, Value.str "/claim/cut.py" 314, Value.int 45 0, Value.int 2 0, Value.int 0 0, Value.int 0 0, Value.int 3 0, Value.ref 107, Value.bool true, Value.int 181 0, Value.ref 108, Value.none, Value.ref 109, Value.ref 110, Value.ref 111, Value.int 317 0, Value.int 45 0, Value.str "/claim/cut.py" 318]
noncomputable def ob116 (P : Params) : Obj := { cls := Value.type "function", data := Data.func { name := "fault", qualname := "Reader.fault", params := (argsB 9 3), body := FuncBody.stmts (bodyB 9 3), scope := (scopeB 9 3), globals := 3, closure := [], defaults := Value.none, kwdefaults := Value.none, pyModule := Value.str "ledgerspeak.reader" 263, code := Value.ref 112 } }
noncomputable def ob117 (P : Params) : Obj := { cls := Value.type "tuple", data := Data.seq #[] }
noncomputable def ob118 (P : Params) : Obj := { cls := Value.none, data := Data.fields #[] }
noncomputable def ob119 (P : Params) : Obj := { cls := Value.type "tuple", data := Data.seq #[Value.str "self" 323, Value.str "token" 324] }
noncomputable def ob120 (P : Params) : Obj := { cls := Value.type "tuple", data := Data.seq #[] }
noncomputable def ob121 (P : Params) : Obj := { cls := Value.none, data := Data.func { name := "take", qualname := "Reader.take", params := (argsB 9 4), body := FuncBody.stmts (bodyB 9 4), scope := (scopeB 9 4), globals := 0, closure := [], defaults := Value.none, kwdefaults := Value.none } }
noncomputable def ob122 (P : Params) : Obj := cobj #[Value.str "take" 320, Value.str "Reader.take" 321, Value.str "/claim/cut.py" 322, Value.int 50 0, Value.int 1 0, Value.int 0 0, Value.int 0 0, Value.int 3 0, Value.ref 114, Value.bool true, Value.int 181 0, Value.ref 115, Value.none, Value.ref 116, Value.ref 117, Value.ref 118, Value.int 325 0, Value.int 50 0, Value.str "/claim/cut.py" 326]
noncomputable def ob123 (P : Params) : Obj := { cls := Value.type "function", data := Data.func { name := "take", qualname := "Reader.take", params := (argsB 9 4), body := FuncBody.stmts (bodyB 9 4), scope := (scopeB 9 4), globals := 3, closure := [], defaults := Value.none, kwdefaults := Value.none, pyModule := Value.str "ledgerspeak.reader" 263, code := Value.ref 119 } }
noncomputable def ob124 (P : Params) : Obj := { cls := Value.type "tuple", data := Data.seq #[Value.int 0 328] }
noncomputable def ob125 (P : Params) : Obj := { cls := Value.type "tuple", data := Data.seq #[] }
noncomputable def ob126 (P : Params) : Obj := { cls := Value.none, data := Data.fields #[] }
noncomputable def ob127 (P : Params) : Obj := { cls := Value.type "tuple", data := Data.seq #[Value.str "self" 332, Value.str "kind" 333, Value.str "ahead" 334, Value.str "token" 335] }
noncomputable def ob128 (P : Params) : Obj := { cls := Value.type "tuple", data := Data.seq #[] }
noncomputable def ob129 (P : Params) : Obj := { cls := Value.none, data := Data.func { name := "is_kind", qualname := "Reader.is_kind", params := (argsB 9 5), body := FuncBody.stmts (bodyB 9 5), scope := (scopeB 9 5), globals := 0, closure := [], defaults := Value.none, kwdefaults := Value.none } }
noncomputable def ob130 (P : Params) : Obj := cobj #[Value.str "is_kind" 329, Value.str "Reader.is_kind" 330, Value.str "/claim/cut.py" 331, Value.int 57 0, Value.int 3 0, Value.int 0 0, Value.int 0 0, Value.int 3 0, Value.ref 122, Value.bool true, Value.int 181 0, Value.ref 123, Value.none, Value.ref 124, Value.ref 125, Value.ref 126, Value.int 336 0, Value.int 57 0, Value.str "/claim/cut.py" 337]
noncomputable def ob131 (P : Params) : Obj := { cls := Value.type "function", data := Data.func { name := "is_kind", qualname := "Reader.is_kind", params := (argsB 9 5), body := FuncBody.stmts (bodyB 9 5), scope := (scopeB 9 5), globals := 3, closure := [], defaults := Value.ref 121, kwdefaults := Value.none, pyModule := Value.str "ledgerspeak.reader" 263, code := Value.ref 127 } }
noncomputable def ob132 (P : Params) : Obj := { cls := Value.type "tuple", data := Data.seq #[] }
noncomputable def ob133 (P : Params) : Obj := { cls := Value.none, data := Data.fields #[] }
noncomputable def ob134 (P : Params) : Obj := { cls := Value.type "tuple", data := Data.seq #[Value.str "self" 342, Value.str "words" 343, Value.str "ahead" 344, Value.str "word" 345] }
noncomputable def ob135 (P : Params) : Obj := { cls := Value.type "tuple", data := Data.seq #[] }
noncomputable def ob136 (P : Params) : Obj := { cls := Value.none, data := Data.func { name := "is_word", qualname := "Reader.is_word", params := (argsB 9 6), body := FuncBody.stmts (bodyB 9 6), scope := (scopeB 9 6), globals := 0, closure := [], defaults := Value.none, kwdefaults := Value.none } }
noncomputable def ob137 (P : Params) : Obj := cobj #[Value.str "is_word" 339, Value.str "Reader.is_word" 340, Value.str "/claim/cut.py" 341, Value.int 61 0, Value.int 2 0, Value.int 0 0, Value.int 0 0, Value.int 3 0, Value.ref 129, Value.bool true, Value.int 181 0, Value.ref 130, Value.none, Value.ref 131, Value.ref 132, Value.ref 133, Value.int 346 0, Value.int 61 0, Value.str "/claim/cut.py" 347]
noncomputable def ob138 (P : Params) : Obj := { cls := Value.type "function", data := Data.func { name := "is_word", qualname := "Reader.is_word", params := (argsB 9 6), body := FuncBody.stmts (bodyB 9 6), scope := (scopeB 9 6), globals := 3, closure := [], defaults := Value.none, kwdefaults := Value.none, pyModule := Value.str "ledgerspeak.reader" 263, code := Value.ref 134 } }
noncomputable def ob139 (P : Params) : Obj := { cls := Value.type "tuple", data := Data.seq #[] }
noncomputable def ob140 (P : Params) : Obj := { cls := Value.none, data := Data.fields #[] }
noncomputable def ob141 (P : Params) : Obj := { cls := Value.type "tuple", data := Data.seq #[Value.str "self" 352, Value.str "words" 353] }
noncomputable def ob142 (P : Params) : Obj := { cls := Value.type "tuple", data := Data.seq #[] }
noncomputable def ob143 (P : Params) : Obj := { cls := Value.none, data := Data.func { name := "skip", qualname := "Reader.skip", params := (argsB 9 7), body := FuncBody.stmts (bodyB 9 7), scope := (scopeB 9 7), globals := 0, closure := [], defaults := Value.none, kwdefaults := Value.none } }
noncomputable def ob144 (P : Params) : Obj := cobj #[Value.str "skip" 349, Value.str "Reader.skip" 350, Value.str "/claim/cut.py" 351, Value.int 69 0, Value.int 2 0, Value.int 0 0, Value.int 0 0, Value.int 3 0, Value.ref 136, Value.bool true, Value.int 181 0, Value.ref 137, Value.none, Value.ref 138, Value.ref 139, Value.ref 140, Value.int 354 0, Value.int 69 0, Value.str "/claim/cut.py" 355]
noncomputable def ob145 (P : Params) : Obj := { cls := Value.type "function", data := Data.func { name := "skip", qualname := "Reader.skip", params := (argsB 9 7), body := FuncBody.stmts (bodyB 9 7), scope := (scopeB 9 7), globals := 3, closure := [], defaults := Value.none, kwdefaults := Value.none, pyModule := Value.str "ledgerspeak.reader" 263, code := Value.ref 141 } }
noncomputable def ob146 (P : Params) : Obj := { cls := Value.type "tuple", data := Data.seq #[] }
noncomputable def ob147 (P : Params) : Obj := { cls := Value.none, data := Data.fields #[] }
noncomputable def ob148 (P : Params) : Obj := { cls := Value.type "tuple", data := Data.seq #[Value.str "self" 360, Value.str "words" 361] }
noncomputable def ob149 (P : Params) : Obj := { cls := Value.type "tuple", data := Data.seq #[] }
noncomputable def ob150 (P : Params) : Obj := { cls := Value.none, data := Data.func { name := "need", qualname := "Reader.need", params := (argsB 9 8), body := FuncBody.stmts (bodyB 9 8), scope := (scopeB 9 7), globals := 0, closure := [], defaults := Value.none, kwdefaults := Value.none } }
noncomputable def ob151 (P : Params) : Obj := cobj #[Value.str "need" 357, Value.str "Reader.need" 358, Value.str "/claim/cut.py" 359, Value.int 72 0, Value.int 2 0, Value.int 0 0, Value.int 0 0, Value.int 3 0, Value.ref 143, Value.bool true, Value.int 181 0, Value.ref 144, Value.none, Value.ref 145, Value.ref 146, Value.ref 147, Value.int 362 0, Value.int 72 0, Value.str "/claim/cut.py" 363]
noncomputable def ob152 (P : Params) : Obj := { cls := Value.type "function", data := Data.func { name := "need", qualname := "Reader.need", params := (argsB 9 8), body := FuncBody.stmts (bodyB 9 8), scope := (scopeB 9 7), globals := 3, closure := [], defaults := Value.none, kwdefaults := Value.none, pyModule := Value.str "ledgerspeak.reader" 263, code := Value.ref 148 } }
noncomputable def ob153 (P : Params) : Obj := { cls := Value.type "tuple", data := Data.seq #[] }
noncomputable def ob154 (P : Params) : Obj := { cls := Value.none, data := Data.fields #[] }
noncomputable def ob155 (P : Params) : Obj := { cls := Value.type "tuple", data := Data.seq #[Value.str "self" 368, Value.str "words" 369] }
noncomputable def ob156 (P : Params) : Obj := { cls := Value.type "tuple", data := Data.seq #[] }
noncomputable def ob157 (P : Params) : Obj := { cls := Value.none, data := Data.func { name := "one_of", qualname := "Reader.one_of", params := (argsB 9 9), body := FuncBody.stmts (bodyB 9 9), scope := (scopeB 9 7), globals := 0, closure := [], defaults := Value.none, kwdefaults := Value.none } }
noncomputable def ob158 (P : Params) : Obj := cobj #[Value.str "one_of" 365, Value.str "Reader.one_of" 366, Value.str "/claim/cut.py" 367, Value.int 75 0, Value.int 2 0, Value.int 0 0, Value.int 0 0, Value.int 3 0, Value.ref 150, Value.bool true, Value.int 181 0, Value.ref 151, Value.none, Value.ref 152, Value.ref 153, Value.ref 154, Value.int 370 0, Value.int 75 0, Value.str "/claim/cut.py" 371]
noncomputable def ob159 (P : Params) : Obj := { cls := Value.type "function", data := Data.func { name := "one_of", qualname := "Reader.one_of", params := (argsB 9 9), body := FuncBody.stmts (bodyB 9 9), scope := (scopeB 9 7), globals := 3, closure := [], defaults := Value.none, kwdefaults := Value.none, pyModule := Value.str "ledgerspeak.reader" 263, code := Value.ref 155 } }
noncomputable def ob160 (P : Params) : Obj := { cls := Value.type "tuple", data := Data.seq #[] }
noncomputable def ob161 (P : Params) : Obj := { cls := Value.none, data := Data.fields #[] }
noncomputable def ob162 (P : Params) : Obj := { cls := Value.type "tuple", data := Data.seq #[Value.str "self" 376] }
noncomputable def ob163 (P : Params) : Obj := { cls := Value.type "tuple", data := Data.seq #[] }
noncomputable def ob164 (P : Params) : Obj := { cls := Value.none, data := Data.func { name := "word", qualname := "Reader.word", params := (argsB 9 10), body := FuncBody.stmts (bodyB 9 10), scope := (scopeB 4 1), globals := 0, closure := [], defaults := Value.none, kwdefaults := Value.none } }
noncomputable def ob165 (P : Params) : Obj := cobj #[Value.str "word" 373, Value.str "Reader.word" 374, Value.str "/claim/cut.py" 375, Value.int 78 0, Value.int 1 0, Value.int 0 0, Value.int 0 0, Value.int 3 0, Value.ref 157, Value.bool true, Value.int 181 0, Value.ref 158, Value.none, Value.ref 159, Value.ref 160, Value.ref 161, Value.int 377 0, Value.int 78 0, Value.str "/claim/cut.py" 378]
noncomputable def ob166 (P : Params) : Obj := { cls := Value.type "function", data := Data.func { name := "word", qualname := "Reader.word", params := (argsB 9 10), body := FuncBody.stmts (bodyB 9 10), scope := (scopeB 4 1), globals := 3, closure := [], defaults := Value.none, kwdefaults := Value.none, pyModule := Value.str "ledgerspeak.reader" 263, code := Value.ref 162 } }
noncomputable def ob167 (P : Params) : Obj := { cls := Value.type "tuple", data := Data.seq #[Value.int 0 380] }
noncomputable def ob168 (P : Params) : Obj := { cls := Value.type "tuple", data := Data.seq #[] }
noncomputable def ob169 (P : Params) : Obj := { cls := Value.none, data := Data.fields #[] }
noncomputable def ob170 (P : Params) : Obj := { cls := Value.type "tuple", data := Data.seq #[Value.str "self" 384, Value.str "ahead" 385] }
noncomputable def ob171 (P : Params) : Obj := { cls := Value.type "tuple", data := Data.seq #[] }
noncomputable def ob172 (P : Params) : Obj := { cls := Value.none, data := Data.func { name := "is_name", qualname := "Reader.is_name", params := (argsB 9 11), body := FuncBody.stmts (bodyB 9 11), scope := (scopeB 9 11), globals := 0, closure := [], defaults := Value.none, kwdefaults := Value.none } }
noncomputable def ob173 (P : Params) : Obj := cobj #[Value.str "is_name" 381, Value.str "Reader.is_name" 382, Value.str "/claim/cut.py" 383, Value.int 83 0, Value.int 2 0, Value.int 0 0, Value.int 0 0, Value.int 3 0, Value.ref 165, Value.bool true, Value.int 181 0, Value.ref 166, Value.none, Value.ref 167, Value.ref 168, Value.ref 169, Value.int 386 0, Value.int 83 0, Value.str "/claim/cut.py" 387]
noncomputable def ob174 (P : Params) : Obj := { cls := Value.type "function", data := Data.func { name := "is_name", qualname := "Reader.is_name", params := (argsB 9 11), body := FuncBody.stmts (bodyB 9 11), scope := (scopeB 9 11), globals := 3, closure := [], defaults := Value.ref 164, kwdefaults := Value.none, pyModule := Value.str "ledgerspeak.reader" 263, code := Value.ref 170 } }
noncomputable def ob175 (P : Params) : Obj := { cls := Value.type "tuple", data := Data.seq #[] }
noncomputable def ob176 (P : Params) : Obj := { cls := Value.none, data := Data.fields #[] }
noncomputable def ob177 (P : Params) : Obj := { cls := Value.type "tuple", data := Data.seq #[Value.str "self" 392] }
noncomputable def ob178 (P : Params) : Obj := { cls := Value.type "tuple", data := Data.seq #[] }
noncomputable def ob179 (P : Params) : Obj := { cls := Value.none, data := Data.func { name := "name", qualname := "Reader.name", params := (argsB 9 12), body := FuncBody.stmts (bodyB 9 12), scope := (scopeB 4 1), globals := 0, closure := [], defaults := Value.none, kwdefaults := Value.none } }
noncomputable def ob180 (P : Params) : Obj := cobj #[Value.str "name" 389, Value.str "Reader.name" 390, Value.str "/claim/cut.py" 391, Value.int 86 0, Value.int 1 0, Value.int 0 0, Value.int 0 0, Value.int 3 0, Value.ref 172, Value.bool true, Value.int 181 0, Value.ref 173, Value.none, Value.ref 174, Value.ref 175, Value.ref 176, Value.int 393 0, Value.int 86 0, Value.str "/claim/cut.py" 394]
noncomputable def ob181 (P : Params) : Obj := { cls := Value.type "function", data := Data.func { name := "name", qualname := "Reader.name", params := (argsB 9 12), body := FuncBody.stmts (bodyB 9 12), scope := (scopeB 4 1), globals := 3, closure := [], defaults := Value.none, kwdefaults := Value.none, pyModule := Value.str "ledgerspeak.reader" 263, code := Value.ref 177 } }
noncomputable def ob182 (P : Params) : Obj := { cls := Value.type "tuple", data := Data.seq #[] }
noncomputable def ob183 (P : Params) : Obj := { cls := Value.none, data := Data.fields #[] }
noncomputable def ob184 (P : Params) : Obj := { cls := Value.type "tuple", data := Data.seq #[Value.str "self" 399] }
noncomputable def ob185 (P : Params) : Obj := { cls := Value.type "tuple", data := Data.seq #[] }
noncomputable def ob186 (P : Params) : Obj := { cls := Value.none, data := Data.func { name := "names", qualname := "Reader.names", params := (argsB 9 13), body := FuncBody.stmts (bodyB 9 13), scope := (scopeB 9 2), globals := 0, closure := [], defaults := Value.none, kwdefaults := Value.none } }
noncomputable def ob187 (P : Params) : Obj := cobj #[Value.str "names" 396, Value.str "Reader.names" 397, Value.str "/claim/cut.py" 398, Value.int 91 0, Value.int 1 0, Value.int 0 0, Value.int 0 0, Value.int 3 0, Value.ref 179, Value.bool true, Value.int 181 0, Value.ref 180, Value.none, Value.ref 181, Value.ref 182, Value.ref 183, Value.int 400 0, Value.int 91 0, Value.str "/claim/cut.py" 401]
noncomputable def ob188 (P : Params) : Obj := { cls := Value.type "function", data := Data.func { name := "names", qualname := "Reader.names", params := (argsB 9 13), body := FuncBody.stmts (bodyB 9 13), scope := (scopeB 9 2), globals := 3, closure := [], defaults := Value.none, kwdefaults := Value.none, pyModule := Value.str "ledgerspeak.reader" 263, code := Value.ref 184 } }
noncomputable def ob189 (P : Params) : Obj := { cls := Value.type "tuple", data := Data.seq #[Value.int 0 403] }
noncomputable def ob190 (P : Params) : Obj := { cls := Value.type "tuple", data := Data.seq #[] }
noncomputable def ob191 (P : Params) : Obj := { cls := Value.none, data := Data.fields #[] }
noncomputable def ob192 (P : Params) : Obj := { cls := Value.type "tuple", data := Data.seq #[Value.str "self" 407, Value.str "sign" 408, Value.str "ahead" 409] }
noncomputable def ob193 (P : Params) : Obj := { cls := Value.type "tuple", data := Data.seq #[] }
noncomputable def ob194 (P : Params) : Obj := { cls := Value.none, data := Data.func { name := "is_sign", qualname := "Reader.is_sign", params := (argsB 9 14), body := FuncBody.stmts (bodyB 9 14), scope := (scopeB 9 14), globals := 0, closure := [], defaults := Value.none, kwdefaults := Value.none } }
noncomputable def ob195 (P : Params) : Obj := cobj #[Value.str "is_sign" 404, Value.str "Reader.is_sign" 405, Value.str "/claim/cut.py" 406, Value.int 94 0, Value.int 3 0, Value.int 0 0, Value.int 0 0, Value.int 3 0, Value.ref 187, Value.bool true, Value.int 181 0, Value.ref 188, Value.none, Value.ref 189, Value.ref 190, Value.ref 191, Value.int 410 0, Value.int 94 0, Value.str "/claim/cut.py" 411]
noncomputable def ob196 (P : Params) : Obj := { cls := Value.type "function", data := Data.func { name := "is_sign", qualname := "Reader.is_sign", params := (argsB 9 14), body := FuncBody.stmts (bodyB 9 14), scope := (scopeB 9 14), globals := 3, closure := [], defaults := Value.ref 186, kwdefaults := Value.none, pyModule := Value.str "ledgerspeak.reader" 263, code := Value.ref 192 } }
noncomputable def ob197 (P : Params) : Obj := { cls := Value.type "tuple", data := Data.seq #[] }
noncomputable def ob198 (P : Params) : Obj := { cls := Value.none, data := Data.fields #[] }
noncomputable def ob199 (P : Params) : Obj := { cls := Value.type "tuple", data := Data.seq #[Value.str "self" 416, Value.str "sign" 417] }
noncomputable def ob200 (P : Params) : Obj := { cls := Value.type "tuple", data := Data.seq #[] }
noncomputable def ob201 (P : Params) : Obj := { cls := Value.none, data := Data.func { name := "skip_sign", qualname := "Reader.skip_sign", params := (argsB 9 15), body := FuncBody.stmts (bodyB 9 15), scope := (scopeB 9 15), globals := 0, closure := [], defaults := Value.none, kwdefaults := Value.none } }
noncomputable def ob202 (P : Params) : Obj := cobj #[Value.str "skip_sign" 413, Value.str "Reader.skip_sign" 414, Value.str "/claim/cut.py" 415, Value.int 97 0, Value.int 2 0, Value.int 0 0, Value.int 0 0, Value.int 3 0, Value.ref 194, Value.bool true, Value.int 181 0, Value.ref 195, Value.none, Value.ref 196, Value.ref 197, Value.ref 198, Value.int 418 0, Value.int 97 0, Value.str "/claim/cut.py" 419]
noncomputable def ob203 (P : Params) : Obj := { cls := Value.type "function", data := Data.func { name := "skip_sign", qualname := "Reader.skip_sign", params := (argsB 9 15), body := FuncBody.stmts (bodyB 9 15), scope := (scopeB 9 15), globals := 3, closure := [], defaults := Value.none, kwdefaults := Value.none, pyModule := Value.str "ledgerspeak.reader" 263, code := Value.ref 199 } }
noncomputable def ob204 (P : Params) : Obj := { cls := Value.type "tuple", data := Data.seq #[] }
noncomputable def ob205 (P : Params) : Obj := { cls := Value.none, data := Data.fields #[] }
noncomputable def ob206 (P : Params) : Obj := { cls := Value.type "tuple", data := Data.seq #[Value.str "self" 424, Value.str "sign" 425] }
noncomputable def ob207 (P : Params) : Obj := { cls := Value.type "tuple", data := Data.seq #[] }
noncomputable def ob208 (P : Params) : Obj := { cls := Value.none, data := Data.func { name := "need_sign", qualname := "Reader.need_sign", params := (argsB 9 16), body := FuncBody.stmts (bodyB 9 16), scope := (scopeB 9 15), globals := 0, closure := [], defaults := Value.none, kwdefaults := Value.none } }
noncomputable def ob209 (P : Params) : Obj := cobj #[Value.str "need_sign" 421, Value.str "Reader.need_sign" 422, Value.str "/claim/cut.py" 423, Value.int 103 0, Value.int 2 0, Value.int 0 0, Value.int 0 0, Value.int 3 0, Value.ref 201, Value.bool true, Value.int 181 0, Value.ref 202, Value.none, Value.ref 203, Value.ref 204, Value.ref 205, Value.int 426 0, Value.int 103 0, Value.str "/claim/cut.py" 427]
noncomputable def ob210 (P : Params) : Obj := { cls := Value.type "function", data := Data.func { name := "need_sign", qualname := "Reader.need_sign", params := (argsB 9 16), body := FuncBody.stmts (bodyB 9 16), scope := (scopeB 9 15), globals := 3, closure := [], defaults := Value.none, kwdefaults := Value.none, pyModule := Value.str "ledgerspeak.reader" 263, code := Value.ref 206 } }
noncomputable def ob211 (P : Params) : Obj := { cls := Value.type "tuple", data := Data.seq #[] }
noncomputable def ob212 (P : Params) : Obj := { cls := Value.none, data := Data.fields #[] }
noncomputable def ob213 (P : Params) : Obj := { cls := Value.type "tuple", data := Data.seq #[Value.str "self" 432] }
noncomputable def ob214 (P : Params) : Obj := { cls := Value.type "tuple", data := Data.seq #[] }
noncomputable def ob215 (P : Params) : Obj := { cls := Value.none, data := Data.func { name := "is_number", qualname := "Reader.is_number", params := (argsB 9 17), body := FuncBody.stmts (bodyB 9 17), scope := (scopeB 9 2), globals := 0, closure := [], defaults := Value.none, kwdefaults := Value.none } }
noncomputable def ob216 (P : Params) : Obj := cobj #[Value.str "is_number" 429, Value.str "Reader.is_number" 430, Value.str "/claim/cut.py" 431, Value.int 107 0, Value.int 1 0, Value.int 0 0, Value.int 0 0, Value.int 3 0, Value.ref 208, Value.bool true, Value.int 181 0, Value.ref 209, Value.none, Value.ref 210, Value.ref 211, Value.ref 212, Value.int 433 0, Value.int 107 0, Value.str "/claim/cut.py" 434]
noncomputable def ob217 (P : Params) : Obj := { cls := Value.type "function", data := Data.func { name := "is_number", qualname := "Reader.is_number", params := (argsB 9 17), body := FuncBody.stmts (bodyB 9 17), scope := (scopeB 9 2), globals := 3, closure := [], defaults := Value.none, kwdefaults := Value.none, pyModule := Value.str "ledgerspeak.reader" 263, code := Value.ref 213 } }
noncomputable def ob218 (P : Params) : Obj := { cls := Value.type "tuple", data := Data.seq #[] }
noncomputable def ob219 (P : Params) : Obj := { cls := Value.none, data := Data.fields #[] }
noncomputable def ob220 (P : Params) : Obj := { cls := Value.type "tuple", data := Data.seq #[Value.str "self" 439] }
noncomputable def ob221 (P : Params) : Obj := { cls := Value.type "tuple", data := Data.seq #[] }
noncomputable def ob222 (P : Params) : Obj := { cls := Value.none, data := Data.func { name := "signed", qualname := "Reader.signed", params := (argsB 9 18), body := FuncBody.stmts (bodyB 9 18), scope := (scopeB 9 2), globals := 0, closure := [], defaults := Value.none, kwdefaults := Value.none } }
noncomputable def ob223 (P : Params) : Obj := cobj #[Value.str "signed" 436, Value.str "Reader.signed" 437, Value.str "/claim/cut.py" 438, Value.int 110 0, Value.int 1 0, Value.int 0 0, Value.int 0 0, Value.int 3 0, Value.ref 215, Value.bool true, Value.int 181 0, Value.ref 216, Value.none, Value.ref 217, Value.ref 218, Value.ref 219, Value.int 440 0, Value.int 110 0, Value.str "/claim/cut.py" 441]
noncomputable def ob224 (P : Params) : Obj := { cls := Value.type "function", data := Data.func { name := "signed", qualname := "Reader.signed", params := (argsB 9 18), body := FuncBody.stmts (bodyB 9 18), scope := (scopeB 9 2), globals := 3, closure := [], defaults := Value.none, kwdefaults := Value.none, pyModule := Value.str "ledgerspeak.reader" 263, code := Value.ref 220 } }
noncomputable def ob225 (P : Params) : Obj := { cls := Value.type "tuple", data := Data.seq #[] }
noncomputable def ob226 (P : Params) : Obj := { cls := Value.none, data := Data.fields #[] }
noncomputable def ob227 (P : Params) : Obj := { cls := Value.type "tuple", data := Data.seq #[Value.str "self" 446] }
noncomputable def ob228 (P : Params) : Obj := { cls := Value.type "tuple", data := Data.seq #[] }
noncomputable def ob229 (P : Params) : Obj := { cls := Value.none, data := Data.func { name := "whole", qualname := "Reader.whole", params := (argsB 9 19), body := FuncBody.stmts (bodyB 9 19), scope := (scopeB 9 2), globals := 0, closure := [], defaults := Value.none, kwdefaults := Value.none } }
noncomputable def ob230 (P : Params) : Obj := cobj #[Value.str "whole" 443, Value.str "Reader.whole" 444, Value.str "/claim/cut.py" 445, Value.int 113 0, Value.int 1 0, Value.int 0 0, Value.int 0 0, Value.int 3 0, Value.ref 222, Value.bool true, Value.int 181 0, Value.ref 223, Value.none, Value.ref 224, Value.ref 225, Value.ref 226, Value.int 447 0, Value.int 113 0, Value.str "/claim/cut.py" 448]
noncomputable def ob231 (P : Params) : Obj := { cls := Value.type "function", data := Data.func { name := "whole", qualname := "Reader.whole", params := (argsB 9 19), body := FuncBody.stmts (bodyB 9 19), scope := (scopeB 9 2), globals := 3, closure := [], defaults := Value.none, kwdefaults := Value.none, pyModule := Value.str "ledgerspeak.reader" 263, code := Value.ref 227 } }
noncomputable def ob232 (P : Params) : Obj := { cls := Value.type "tuple", data := Data.seq #[] }
noncomputable def ob233 (P : Params) : Obj := { cls := Value.none, data := Data.fields #[] }
noncomputable def ob234 (P : Params) : Obj := { cls := Value.type "tuple", data := Data.seq #[Value.str "self" 453] }
noncomputable def ob235 (P : Params) : Obj := { cls := Value.type "tuple", data := Data.seq #[] }
noncomputable def ob236 (P : Params) : Obj := { cls := Value.none, data := Data.func { name := "literal", qualname := "Reader.literal", params := (argsB 9 20), body := FuncBody.stmts (bodyB 9 20), scope := (scopeB 4 1), globals := 0, closure := [], defaults := Value.none, kwdefaults := Value.none } }
noncomputable def ob237 (P : Params) : Obj := cobj #[Value.str "literal" 450, Value.str "Reader.literal" 451, Value.str "/claim/cut.py" 452, Value.int 116 0, Value.int 1 0, Value.int 0 0, Value.int 0 0, Value.int 3 0, Value.ref 229, Value.bool true, Value.int 181 0, Value.ref 230, Value.none, Value.ref 231, Value.ref 232, Value.ref 233, Value.int 454 0, Value.int 116 0, Value.str "/claim/cut.py" 455]
noncomputable def ob238 (P : Params) : Obj := { cls := Value.type "function", data := Data.func { name := "literal", qualname := "Reader.literal", params := (argsB 9 20), body := FuncBody.stmts (bodyB 9 20), scope := (scopeB 4 1), globals := 3, closure := [], defaults := Value.none, kwdefaults := Value.none, pyModule := Value.str "ledgerspeak.reader" 263, code := Value.ref 234 } }
noncomputable def ob239 (P : Params) : Obj := { cls := Value.type "tuple", data := Data.seq #[] }
noncomputable def ob240 (P : Params) : Obj := { cls := Value.none, data := Data.fields #[] }
noncomputable def ob241 (P : Params) : Obj := { cls := Value.type "tuple", data := Data.seq #[Value.str "self" 460] }
noncomputable def ob242 (P : Params) : Obj := { cls := Value.type "tuple", data := Data.seq #[] }
noncomputable def ob243 (P : Params) : Obj := { cls := Value.none, data := Data.func { name := "octets", qualname := "Reader.octets", params := (argsB 9 21), body := FuncBody.stmts (bodyB 9 21), scope := (scopeB 9 2), globals := 0, closure := [], defaults := Value.none, kwdefaults := Value.none } }
noncomputable def ob244 (P : Params) : Obj := cobj #[Value.str "octets" 457, Value.str "Reader.octets" 458, Value.str "/claim/cut.py" 459, Value.int 121 0, Value.int 1 0, Value.int 0 0, Value.int 0 0, Value.int 3 0, Value.ref 236, Value.bool true, Value.int 181 0, Value.ref 237, Value.none, Value.ref 238, Value.ref 239, Value.ref 240, Value.int 461 0, Value.int 121 0, Value.str "/claim/cut.py" 462]
noncomputable def ob245 (P : Params) : Obj := { cls := Value.type "function", data := Data.func { name := "octets", qualname := "Reader.octets", params := (argsB 9 21), body := FuncBody.stmts (bodyB 9 21), scope := (scopeB 9 2), globals := 3, closure := [], defaults := Value.none, kwdefaults := Value.none, pyModule := Value.str "ledgerspeak.reader" 263, code := Value.ref 241 } }
noncomputable def ob246 (P : Params) : Obj := { cls := Value.type "tuple", data := Data.seq #[Value.str "at" 464, Value.str "named" 465, Value.str "tokens" 466] }
noncomputable def ob247 (P : Params) : Obj := { cls := Value.type "dict", data := Data.dict #[ke P "__module__" 281 (Value.str "ledgerspeak.reader" 263), ke P "__firstlineno__" 285 (Value.int 30 284), ke P "__init__" 295 (Value.ref 91), ke P "peek" 304 (Value.ref 99), ke P "is_done" 311 (Value.ref 106), ke P "fault" 319 (Value.ref 113), ke P "take" 327 (Value.ref 120), ke P "is_kind" 338 (Value.ref 128), ke P "is_word" 348 (Value.ref 135), ke P "skip" 356 (Value.ref 142), ke P "need" 364 (Value.ref 149), ke P "one_of" 372 (Value.ref 156), ke P "word" 379 (Value.ref 163), ke P "is_name" 388 (Value.ref 171), ke P "name" 395 (Value.ref 178), ke P "names" 402 (Value.ref 185), ke P "is_sign" 412 (Value.ref 193), ke P "skip_sign" 420 (Value.ref 200), ke P "need_sign" 428 (Value.ref 207), ke P "is_number" 435 (Value.ref 214), ke P "signed" 442 (Value.ref 221), ke P "whole" 449 (Value.ref 228), ke P "literal" 456 (Value.ref 235), ke P "octets" 463 (Value.ref 242), ke P "__static_attributes__" 467 (Value.ref 243), ke P "__dict__" 469 (Value.ref 246), ke P "__weakref__" 471 (Value.ref 247), ke P "__doc__" 472 (Value.none)] 4 }
noncomputable def ob248 (P : Params) : Obj := { cls := Value.type "type", data := Data.cls { name := "Reader", bases := [Value.type "object"], mro := [Value.ref 245, Value.type "object"], ns := 244, qualname := "Reader" }, slots := #[none, none, some (Value.str "Reader" 274), some (Value.str "Reader" 282), some (Value.builtin "object.__new__"), some (Value.bool true)] }
noncomputable def ob249 (P : Params) : Obj := { cls := Value.type "getset_descriptor", data := Data.fields #[Value.str "__dict__" 468, Value.ref 245, Value.builtin "function.__dict__", Value.builtin "function.__dict__#set"] }
noncomputable def ob250 (P : Params) : Obj := { cls := Value.type "getset_descriptor", data := Data.fields #[Value.str "__weakref__" 470, Value.ref 245, Value.builtin "ExceptionGroup.__weakref__", Value.none] }
noncomputable def ob251 (P : Params) : Obj := { cls := Value.type "super", data := Data.fields #[Value.ref 245, Value.ref 245, Value.ref 245] }
noncomputable def ob252 (P : Params) : Obj := { cls := Value.type "builtin_function_or_method", data := Data.fields #[Value.builtin "object.__init_subclass__", Value.ref 245] }
noncomputable def ob343 (P : Params) : Obj := { cls := Value.type "dict", data := Data.dict #[ke P "__name__" 165 (Value.str "law_og0091_01" 521), ke P "__doc__" 166 (Value.none), ke P "__package__" 167 (Value.none), ke P "__loader__" 168 (Value.builtin "__main__.__loader__#opaque"), ke P "__spec__" 169 (Value.none), ke P "__annotations__" 170 (Value.ref 6), ke P "__builtins__" 171 (Value.ref 4), ke P "__file__" 173 (Value.str "/claim/cut.py" 172), ke P "__cached__" 174 (Value.none), ke P "_wall" 193 (Value.ref 21), ke P "skip_end" 204 (Value.ref 28), ke P "LedgerError" 246 (Value.ref 54), ke P "GrammarFault" 262 (Value.ref 67), ke P "RESERVED" 266 (Value.str resT 265), ke P "is_reserved" 273 (Value.ref 76), ke P "Reader" 474 (Value.ref 245), ke P "Token" 520 (Value.ref 275), ke P "_law_MENU" 543 (Value.ref 290)] 18 }
noncomputable def ob344 (P : Params) : Obj := { cls := Value.none, data := Data.fields #[Value.int 1 0, Value.int 0 0, Value.ref 20, Value.int 5 0, Value.int 0 0, Value.ref 27, Value.int 15 0, Value.int 0 0, Value.ref 34, Value.int 24 0, Value.int 0 0, Value.ref 63, Value.int 28 0, Value.int 0 0, Value.ref 75, Value.int 30 0, Value.int 0 0, Value.ref 82, Value.int 124 0, Value.int 0 0, Value.ref 255] }
noncomputable def ob345 (P : Params) : Obj := { cls := Value.type "tuple", data := Data.seq #[] }
noncomputable def ob346 (P : Params) : Obj := { cls := Value.type "builtin_function_or_method", data := Data.fields #[Value.builtin "type.__prepare__", Value.type "type"] }
noncomputable def ob347 (P : Params) : Obj := { cls := Value.type "dict", data := Data.dict #[ke P "__module__" 484 (Value.str "ledgerspeak.tokens" 475), ke P "__qualname__" 486 (Value.str "Token" 485), ke P "__firstlineno__" 488 (Value.int 124 487), ke P "__init__" 501 (Value.ref 265), ke P "told" 508 (Value.ref 272), ke P "__static_attributes__" 513 (Value.ref 273)] 6 }
noncomputable def ob348 (P : Params) : Obj := { cls := Value.type "tuple", data := Data.seq #[] }
noncomputable def ob349 (P : Params) : Obj := { cls := Value.none, data := Data.fields #[Value.int 126 0, Value.int 4 0, Value.ref 264, Value.int 132 0, Value.int 4 0, Value.ref 271] }
noncomputable def ob350 (P : Params) : Obj := cobj #[Value.str "Token" 479, Value.str "Token" 480, Value.str "/claim/cut.py" 481, Value.int 124 0, Value.int 0 0, Value.int 0 0, Value.int 0 0, Value.int 0 0, Value.ref 253, Value.bool false, Value.int 181 0, Value.ref 254, Value.none, Value.none, Value.none, Value.none, Value.int 482 0, Value.int 124 0, Value.str "/claim/cut.py" 483]
noncomputable def ob351 (P : Params) : Obj := { cls := Value.type "frame", slots := #[some (Value.ref 255), some (Value.ref 3), some (Value.ref 252), none, some (Value.str "ledgerspeak.tokens" 475), none, some (Value.ref 0)] }
noncomputable def ob352 (P : Params) : Obj := { cls := Value.type "tuple", data := Data.seq #[Value.int 0 489, Value.int 0 490] }
noncomputable def ob353 (P : Params) : Obj := { cls := Value.type "tuple", data := Data.seq #[Value.ref 257, Value.bool false] }
noncomputable def ob354 (P : Params) : Obj := { cls := Value.type "tuple", data := Data.seq #[] }
noncomputable def ob355 (P : Params) : Obj := { cls := Value.none, data := Data.fields #[] }
noncomputable def ob356 (P : Params) : Obj := { cls := Value.type "tuple", data := Data.seq #[Value.str "self" 494, Value.str "kind" 495, Value.str "worth" 496, Value.str "at" 497, Value.str "is_in_a" 498] }
noncomputable def ob357 (P : Params) : Obj := { cls := Value.type "tuple", data := Data.seq #[] }
noncomputable def ob358 (P : Params) : Obj := { cls := Value.none, data := Data.func { name := "__init__", qualname := "Token.__init__", params := (argsB 11 0), body := FuncBody.stmts (bodyB 11 0), scope := (scopeB 11 0), globals := 0, closure := [], defaults := Value.none, kwdefaults := Value.none } }
noncomputable def ob359 (P : Params) : Obj := cobj #[Value.str "__init__" 491, Value.str "Token.__init__" 492, Value.str "/claim/cut.py" 493, Value.int 126 0, Value.int 5 0, Value.int 0 0, Value.int 0 0, Value.int 3 0, Value.ref 259, Value.bool true, Value.int 181 0, Value.ref 260, Value.none, Value.ref 261, Value.ref 262, Value.ref 263, Value.int 499 0, Value.int 126 0, Value.str "/claim/cut.py" 500]
noncomputable def ob360 (P : Params) : Obj := { cls := Value.type "function", data := Data.func { name := "__init__", qualname := "Token.__init__", params := (argsB 11 0), body := FuncBody.stmts (bodyB 11 0), scope := (scopeB 11 0), globals := 3, closure := [], defaults := Value.ref 258, kwdefaults := Value.none, pyModule := Value.str "ledgerspeak.tokens" 475, code := Value.ref 264 } }
noncomputable def ob361 (P : Params) : Obj := { cls := Value.type "tuple", data := Data.seq #[] }
noncomputable def ob362 (P : Params) : Obj := { cls := Value.none, data := Data.fields #[] }
noncomputable def ob363 (P : Params) : Obj := { cls := Value.type "tuple", data := Data.seq #[Value.str "self" 505] }
noncomputable def ob364 (P : Params) : Obj := { cls := Value.type "tuple", data := Data.seq #[] }
noncomputable def ob365 (P : Params) : Obj := { cls := Value.none, data := Data.func { name := "told", qualname := "Token.told", params := (argsB 11 1), body := FuncBody.stmts (bodyB 11 1), scope := (scopeB 4 1), globals := 0, closure := [], defaults := Value.none, kwdefaults := Value.none } }
noncomputable def ob366 (P : Params) : Obj := cobj #[Value.str "told" 502, Value.str "Token.told" 503, Value.str "/claim/cut.py" 504, Value.int 132 0, Value.int 1 0, Value.int 0 0, Value.int 0 0, Value.int 3 0, Value.ref 266, Value.bool true, Value.int 181 0, Value.ref 267, Value.none, Value.ref 268, Value.ref 269, Value.ref 270, Value.int 506 0, Value.int 132 0, Value.str "/claim/cut.py" 507]
noncomputable def ob367 (P : Params) : Obj := { cls := Value.type "function", data := Data.func { name := "told", qualname := "Token.told", params := (argsB 11 1), body := FuncBody.stmts (bodyB 11 1), scope := (scopeB 4 1), globals := 3, closure := [], defaults := Value.none, kwdefaults := Value.none, pyModule := Value.str "ledgerspeak.tokens" 475, code := Value.ref 271 } }
noncomputable def ob368 (P : Params) : Obj := { cls := Value.type "tuple", data := Data.seq #[Value.str "at" 509, Value.str "is_in_a" 510, Value.str "kind" 511, Value.str "worth" 512] }
noncomputable def ob369 (P : Params) : Obj := { cls := Value.type "dict", data := Data.dict #[ke P "__module__" 484 (Value.str "ledgerspeak.tokens" 475), ke P "__firstlineno__" 488 (Value.int 124 487), ke P "__init__" 501 (Value.ref 265), ke P "told" 508 (Value.ref 272), ke P "__static_attributes__" 513 (Value.ref 273), ke P "__dict__" 515 (Value.ref 276), ke P "__weakref__" 517 (Value.ref 277), ke P "__doc__" 518 (Value.none)] 4 }
noncomputable def ob370 (P : Params) : Obj := { cls := Value.type "type", data := Data.cls { name := "Token", bases := [Value.type "object"], mro := [Value.ref 275, Value.type "object"], ns := 274, qualname := "Token" }, slots := #[none, none, some (Value.str "Token" 477), some (Value.str "Token" 485), some (Value.builtin "object.__new__"), some (Value.bool true)] }
noncomputable def ob371 (P : Params) : Obj := { cls := Value.type "getset_descriptor", data := Data.fields #[Value.str "__dict__" 514, Value.ref 275, Value.builtin "function.__dict__", Value.builtin "function.__dict__#set"] }
noncomputable def ob372 (P : Params) : Obj := { cls := Value.type "getset_descriptor", data := Data.fields #[Value.str "__weakref__" 516, Value.ref 275, Value.builtin "ExceptionGroup.__weakref__", Value.none] }
noncomputable def ob373 (P : Params) : Obj := { cls := Value.type "super", data := Data.fields #[Value.ref 275, Value.ref 275, Value.ref 275] }
noncomputable def ob374 (P : Params) : Obj := { cls := Value.type "builtin_function_or_method", data := Data.fields #[Value.builtin "object.__init_subclass__", Value.ref 275] }
noncomputable def ob375 (P : Params) : Obj := { cls := Value.type "tuple", data := Data.seq #[Value.str "word" 523, Value.str "END" 524] }
noncomputable def ob376 (P : Params) : Obj := { cls := Value.type "tuple", data := Data.seq #[Value.str "word" 525, Value.str "PROGRAM" 526] }
noncomputable def ob377 (P : Params) : Obj := { cls := Value.type "tuple", data := Data.seq #[Value.str "word" 527, Value.str "P" 528] }
noncomputable def ob378 (P : Params) : Obj := { cls := Value.type "tuple", data := Data.seq #[Value.str "sign" 529, Value.str "." 530] }
noncomputable def ob379 (P : Params) : Obj := { cls := Value.type "tuple", data := Data.seq #[Value.str "word" 531, Value.str "Q" 532] }
noncomputable def ob380 (P : Params) : Obj := { cls := Value.type "tuple", data := Data.seq #[Value.str "literal" 533, Value.str "P" 534] }
noncomputable def ob381 (P : Params) : Obj := { cls := Value.type "tuple", data := Data.seq #[Value.str "number" 535, Value.str "1" 536] }
noncomputable def ob382 (P : Params) : Obj := { cls := Value.type "tuple", data := Data.seq #[Value.str "word" 537, Value.str "END-IF" 538] }
noncomputable def ob383 (P : Params) : Obj := { cls := Value.type "tuple", data := Data.seq #[Value.str "sign" 539, Value.str "(" 540] }
noncomputable def ob384 (P : Params) : Obj := { cls := Value.type "tuple", data := Data.seq #[Value.str "literal" 541, Value.str "." 542] }
noncomputable def ob385 (P : Params) : Obj := { cls := Value.type "tuple", data := Data.seq #[Value.ref 280, Value.ref 281, Value.ref 282, Value.ref 283, Value.ref 284, Value.ref 285, Value.ref 286, Value.ref 287, Value.ref 288, Value.ref 289] }
noncomputable def ob386 (P : Params) : Obj := { cls := Value.type "dict", data := Data.dict #[ke P "__name__" 165 (Value.str "law_og0091_01" 521), ke P "__doc__" 166 (Value.none), ke P "__package__" 167 (Value.none), ke P "__loader__" 168 (Value.builtin "__main__.__loader__#opaque"), ke P "__spec__" 169 (Value.none), ke P "__annotations__" 170 (Value.ref 6), ke P "__builtins__" 171 (Value.ref 4), ke P "__file__" 173 (Value.str "/claim/cut.py" 172), ke P "__cached__" 174 (Value.none), ke P "_wall" 193 (Value.ref 21), ke P "skip_end" 204 (Value.ref 28), ke P "LedgerError" 246 (Value.ref 54), ke P "GrammarFault" 262 (Value.ref 67), ke P "RESERVED" 266 (Value.str resT 265), ke P "is_reserved" 273 (Value.ref 76), ke P "Reader" 474 (Value.ref 245), ke P "Token" 520 (Value.ref 275), ke P "_law_MENU" 543 (Value.ref 290), ke P "_law_WRITTEN" 613 (Value.ref 330), ke P "_law_taker" 623 (Value.ref 337), ke P "_law_answer" 629 (Value.ref 342), ke P "_law_due" 635 (Value.ref 347), ke P "law" 641 (Value.ref 352)] 23 }
noncomputable def ob387 (P : Params) : Obj := { cls := Value.none, data := Data.fields #[Value.int 1 0, Value.int 0 0, Value.ref 20, Value.int 5 0, Value.int 0 0, Value.ref 27, Value.int 15 0, Value.int 0 0, Value.ref 34, Value.int 24 0, Value.int 0 0, Value.ref 63, Value.int 28 0, Value.int 0 0, Value.ref 75, Value.int 30 0, Value.int 0 0, Value.ref 82, Value.int 124 0, Value.int 0 0, Value.ref 255, Value.int 137 0, Value.int 0 0, Value.ref 336, Value.int 149 0, Value.int 0 0, Value.ref 341, Value.int 156 0, Value.int 0 0, Value.ref 346, Value.int 166 0, Value.int 0 0, Value.ref 351] }
noncomputable def ob388 (P : Params) : Obj := { cls := Value.type "tuple", data := Data.seq #[Value.int 0 544, Value.int 1 545, Value.int 2 546, Value.int 3 547] }
noncomputable def ob389 (P : Params) : Obj := { cls := Value.type "tuple", data := Data.seq #[Value.int 4 549, Value.none] }
noncomputable def ob390 (P : Params) : Obj := { cls := Value.type "tuple", data := Data.seq #[Value.ref 291, Value.int 0 548, Value.ref 292] }
noncomputable def ob391 (P : Params) : Obj := { cls := Value.type "tuple", data := Data.seq #[Value.int 0 550, Value.int 1 551, Value.int 2 552, Value.int 3 553, Value.int 0 554] }
noncomputable def ob392 (P : Params) : Obj := { cls := Value.type "tuple", data := Data.seq #[Value.int 4 556, Value.none] }
noncomputable def ob393 (P : Params) : Obj := { cls := Value.type "tuple", data := Data.seq #[Value.ref 294, Value.int 0 555, Value.ref 295] }
noncomputable def ob394 (P : Params) : Obj := { cls := Value.type "tuple", data := Data.seq #[Value.int 0 557, Value.int 1 558, Value.int 4 559, Value.int 3 560] }
noncomputable def ob395 (P : Params) : Obj := { cls := Value.type "tuple", data := Data.seq #[Value.none, Value.int 3 562] }
noncomputable def ob396 (P : Params) : Obj := { cls := Value.type "tuple", data := Data.seq #[Value.ref 297, Value.int 0 561, Value.ref 298] }
noncomputable def ob397 (P : Params) : Obj := { cls := Value.type "tuple", data := Data.seq #[Value.int 0 563, Value.int 1 564, Value.int 5 565, Value.int 3 566] }
noncomputable def ob398 (P : Params) : Obj := { cls := Value.type "tuple", data := Data.seq #[Value.none, Value.int 2 568] }
noncomputable def ob399 (P : Params) : Obj := { cls := Value.type "tuple", data := Data.seq #[Value.ref 300, Value.int 0 567, Value.ref 301] }
noncomputable def ob400 (P : Params) : Obj := { cls := Value.type "tuple", data := Data.seq #[Value.int 0 569, Value.int 1 570] }
noncomputable def ob401 (P : Params) : Obj := { cls := Value.type "tuple", data := Data.seq #[Value.none, Value.int 1 572] }
noncomputable def ob402 (P : Params) : Obj := { cls := Value.type "tuple", data := Data.seq #[Value.ref 303, Value.int 0 571, Value.ref 304] }
noncomputable def ob403 (P : Params) : Obj := { cls := Value.type "tuple", data := Data.seq #[Value.int 0 573, Value.int 1 574, Value.int 2 575] }
noncomputable def ob404 (P : Params) : Obj := { cls := Value.type "tuple", data := Data.seq #[Value.none, Value.int 2 577] }
noncomputable def ob405 (P : Params) : Obj := { cls := Value.type "tuple", data := Data.seq #[Value.ref 306, Value.int 0 576, Value.ref 307] }
noncomputable def ob406 (P : Params) : Obj := { cls := Value.type "tuple", data := Data.seq #[Value.int 0 578, Value.int 1 579, Value.int 4 580] }
noncomputable def ob407 (P : Params) : Obj := { cls := Value.type "tuple", data := Data.seq #[Value.none, Value.int 2 582] }
noncomputable def ob408 (P : Params) : Obj := { cls := Value.type "tuple", data := Data.seq #[Value.ref 309, Value.int 0 581, Value.ref 310] }
noncomputable def ob409 (P : Params) : Obj := { cls := Value.type "tuple", data := Data.seq #[Value.int 0 583, Value.int 1 584, Value.int 2 585, Value.int 9 586] }
noncomputable def ob410 (P : Params) : Obj := { cls := Value.type "tuple", data := Data.seq #[Value.none, Value.int 3 588] }
noncomputable def ob411 (P : Params) : Obj := { cls := Value.type "tuple", data := Data.seq #[Value.ref 312, Value.int 0 587, Value.ref 313] }
noncomputable def ob412 (P : Params) : Obj := { cls := Value.type "tuple", data := Data.seq #[Value.int 0 589, Value.int 2 590, Value.int 3 591] }
noncomputable def ob413 (P : Params) : Obj := { cls := Value.type "tuple", data := Data.seq #[Value.int 0 593, Value.none] }
noncomputable def ob414 (P : Params) : Obj := { cls := Value.type "tuple", data := Data.seq #[Value.ref 315, Value.int 0 592, Value.ref 316] }
noncomputable def ob415 (P : Params) : Obj := { cls := Value.type "tuple", data := Data.seq #[Value.int 1 594, Value.int 0 595] }
noncomputable def ob416 (P : Params) : Obj := { cls := Value.type "tuple", data := Data.seq #[Value.int 0 597, Value.none] }
noncomputable def ob417 (P : Params) : Obj := { cls := Value.type "tuple", data := Data.seq #[Value.ref 318, Value.int 0 596, Value.ref 319] }
noncomputable def ob418 (P : Params) : Obj := { cls := Value.type "tuple", data := Data.seq #[] }
noncomputable def ob419 (P : Params) : Obj := { cls := Value.type "tuple", data := Data.seq #[Value.int 0 599, Value.none] }
noncomputable def ob420 (P : Params) : Obj := { cls := Value.type "tuple", data := Data.seq #[Value.ref 321, Value.int 0 598, Value.ref 322] }
noncomputable def ob421 (P : Params) : Obj := { cls := Value.type "tuple", data := Data.seq #[Value.int 3 600, Value.int 0 601, Value.int 1 602, Value.int 2 603, Value.int 3 604] }
noncomputable def ob422 (P : Params) : Obj := { cls := Value.type "tuple", data := Data.seq #[Value.int 5 606, Value.none] }
noncomputable def ob423 (P : Params) : Obj := { cls := Value.type "tuple", data := Data.seq #[Value.ref 324, Value.int 1 605, Value.ref 325] }
noncomputable def ob424 (P : Params) : Obj := { cls := Value.type "tuple", data := Data.seq #[Value.int 0 607, Value.int 1 608, Value.int 7 609, Value.int 3 610] }
noncomputable def ob425 (P : Params) : Obj := { cls := Value.type "tuple", data := Data.seq #[Value.none, Value.int 2 612] }
noncomputable def ob426 (P : Params) : Obj := { cls := Value.type "tuple", data := Data.seq #[Value.ref 327, Value.int 0 611, Value.ref 328] }
noncomputable def ob427 (P : Params) : Obj := { cls := Value.type "tuple", data := Data.seq #[Value.ref 293, Value.ref 296, Value.ref 299, Value.ref 302, Value.ref 305, Value.ref 308, Value.ref 311, Value.ref 314, Value.ref 317, Value.ref 320, Value.ref 323, Value.ref 326, Value.ref 329] }
noncomputable def ob428 (P : Params) : Obj := { cls := Value.type "tuple", data := Data.seq #[] }
noncomputable def ob429 (P : Params) : Obj := { cls := Value.none, data := Data.fields #[] }
noncomputable def ob430 (P : Params) : Obj := { cls := Value.type "tuple", data := Data.seq #[Value.str "script" 617, Value.str "take" 618] }
noncomputable def ob431 (P : Params) : Obj := { cls := Value.type "tuple", data := Data.seq #[Value.str "cells" 619, Value.str "place" 620] }
noncomputable def ob432 (P : Params) : Obj := { cls := Value.none, data := Data.func { name := "_law_taker", qualname := "_law_taker", params := (argsA 15), body := FuncBody.stmts (bodyA 15), scope := (scopeA 15), globals := 0, closure := [], defaults := Value.none, kwdefaults := Value.none } }
noncomputable def ob433 (P : Params) : Obj := cobj #[Value.str "_law_taker" 614, Value.str "_law_taker" 615, Value.str "/claim/cut.py" 616, Value.int 137 0, Value.int 1 0, Value.int 0 0, Value.int 0 0, Value.int 3 0, Value.ref 331, Value.bool true, Value.int 181 0, Value.ref 332, Value.none, Value.ref 333, Value.ref 334, Value.ref 335, Value.int 621 0, Value.int 137 0, Value.str "/claim/cut.py" 622]
noncomputable def ob434 (P : Params) : Obj := { cls := Value.type "function", data := Data.func { name := "_law_taker", qualname := "_law_taker", params := (argsA 15), body := FuncBody.stmts (bodyA 15), scope := (scopeA 15), globals := 3, closure := [], defaults := Value.none, kwdefaults := Value.none, pyModule := Value.str "law_og0091_01" 521, code := Value.ref 336 } }
noncomputable def ob435 (P : Params) : Obj := { cls := Value.type "tuple", data := Data.seq #[] }
noncomputable def ob436 (P : Params) : Obj := { cls := Value.none, data := Data.fields #[] }
noncomputable def ob437 (P : Params) : Obj := { cls := Value.none, data := Data.func { name := "_law_answer", qualname := "_law_answer", params := (argsA 16), body := FuncBody.stmts (bodyA 16), scope := (scopeA 16), globals := 0, closure := [], defaults := Value.none, kwdefaults := Value.none } }
noncomputable def ob438 (P : Params) : Obj := cobj #[Value.str "_law_answer" 624, Value.str "_law_answer" 625, Value.str "/claim/cut.py" 626, Value.int 149 0, Value.int 3 0, Value.int 0 0, Value.int 0 0, Value.int 3 0, Value.ref 338, Value.bool true, Value.int 181 0, Value.ref 339, Value.none, Value.none, Value.none, Value.ref 340, Value.int 627 0, Value.int 149 0, Value.str "/claim/cut.py" 628]
noncomputable def ob439 (P : Params) : Obj := { cls := Value.type "function", data := Data.func { name := "_law_answer", qualname := "_law_answer", params := (argsA 16), body := FuncBody.stmts (bodyA 16), scope := (scopeA 16), globals := 3, closure := [], defaults := Value.none, kwdefaults := Value.none, pyModule := Value.str "law_og0091_01" 521, code := Value.ref 341 } }
noncomputable def ob440 (P : Params) : Obj := { cls := Value.type "tuple", data := Data.seq #[] }
noncomputable def ob441 (P : Params) : Obj := { cls := Value.none, data := Data.fields #[] }
noncomputable def ob442 (P : Params) : Obj := { cls := Value.none, data := Data.func { name := "_law_due", qualname := "_law_due", params := (argsA 17), body := FuncBody.stmts (bodyA 17), scope := (scopeA 17), globals := 0, closure := [], defaults := Value.none, kwdefaults := Value.none } }
noncomputable def ob443 (P : Params) : Obj := cobj #[Value.str "_law_due" 630, Value.str "_law_due" 631, Value.str "/claim/cut.py" 632, Value.int 156 0, Value.int 3 0, Value.int 0 0, Value.int 0 0, Value.int 3 0, Value.ref 343, Value.bool true, Value.int 181 0, Value.ref 344, Value.none, Value.none, Value.none, Value.ref 345, Value.int 633 0, Value.int 156 0, Value.str "/claim/cut.py" 634]
noncomputable def ob444 (P : Params) : Obj := { cls := Value.type "function", data := Data.func { name := "_law_due", qualname := "_law_due", params := (argsA 17), body := FuncBody.stmts (bodyA 17), scope := (scopeA 17), globals := 3, closure := [], defaults := Value.none, kwdefaults := Value.none, pyModule := Value.str "law_og0091_01" 521, code := Value.ref 346 } }
noncomputable def ob445 (P : Params) : Obj := { cls := Value.type "tuple", data := Data.seq #[] }
noncomputable def ob446 (P : Params) : Obj := { cls := Value.none, data := Data.fields #[] }
noncomputable def ob447 (P : Params) : Obj := { cls := Value.none, data := Data.func { name := "law", qualname := "law", params := (argsA 18), body := FuncBody.stmts (bodyA 18), scope := (scopeA 18), globals := 0, closure := [], defaults := Value.none, kwdefaults := Value.none } }
noncomputable def ob448 (P : Params) : Obj := cobj #[Value.str "law" 636, Value.str "law" 637, Value.str "/claim/cut.py" 638, Value.int 166 0, Value.int 1 0, Value.int 0 0, Value.int 0 0, Value.int 3 0, Value.ref 348, Value.bool true, Value.int 181 0, Value.ref 349, Value.none, Value.none, Value.none, Value.ref 350, Value.int 639 0, Value.int 166 0, Value.str "/claim/cut.py" 640]
noncomputable def ob449 (P : Params) : Obj := { cls := Value.type "function", data := Data.func { name := "law", qualname := "law", params := (argsA 18), body := FuncBody.stmts (bodyA 18), scope := (scopeA 18), globals := 3, closure := [], defaults := Value.none, kwdefaults := Value.none, pyModule := Value.str "law_og0091_01" 521, code := Value.ref 351 } }
noncomputable def HA (P : Params) : Heap := ⟨⟨[boot_o_0 P, boot_o_1 P, boot_o_2 P, boot_o_3 P, boot_o_4 P, boot_o_5 P, boot_o_6 P, boot_o_7 P, boot_o_8 P, boot_o_9 P, boot_o_10 P, ob4 P, ob5 P, ob6 P, ob7 P]⟩, {}⟩
noncomputable def HC (P : Params) : Heap := ⟨⟨[boot_o_0 P, boot_o_1 P, ob10 P, ob11 P, boot_o_4 P, boot_o_5 P, boot_o_6 P, boot_o_7 P, boot_o_8 P, boot_o_9 P, boot_o_10 P, ob4 P, ob12 P, ob6 P, ob7 P, ob13 P, ob14 P, ob15 P, ob16 P, ob17 P, ob18 P, ob19 P, ob20 P, ob21 P, ob22 P, ob23 P, ob24 P, ob25 P, ob26 P, ob27 P, ob28 P, ob29 P, ob30 P, ob31 P, ob32 P, ob33 P, ob34 P, ob35 P, ob36 P, ob37 P, ob38 P, ob39 P, ob40 P, ob41 P, ob42 P, ob43 P, ob44 P, ob45 P, ob46 P, ob47 P, ob48 P, ob49 P, ob50 P, ob51 P, ob52 P, ob53 P, ob54 P, ob55 P]⟩, {}⟩
noncomputable def HD (P : Params) : Heap := ⟨⟨[boot_o_0 P, boot_o_1 P, ob10 P, ob56 P, boot_o_4 P, boot_o_5 P, boot_o_6 P, boot_o_7 P, boot_o_8 P, boot_o_9 P, boot_o_10 P, ob4 P, ob57 P, ob6 P, ob7 P, ob13 P, ob14 P, ob15 P, ob16 P, ob17 P, ob18 P, ob19 P, ob20 P, ob21 P, ob22 P, ob23 P, ob24 P, ob25 P, ob26 P, ob27 P, ob28 P, ob29 P, ob30 P, ob31 P, ob32 P, ob33 P, ob34 P, ob35 P, ob36 P, ob37 P, ob38 P, ob39 P, ob40 P, ob41 P, ob42 P, ob43 P, ob44 P, ob45 P, ob46 P, ob47 P, ob48 P, ob49 P, ob50 P, ob51 P, ob58 P, ob53 P, ob54 P, ob55 P, ob59 P, ob60 P, ob61 P, ob62 P, ob63 P, ob64 P, ob65 P, ob66 P, ob67 P, ob68 P, ob69 P, ob70 P, ob71 P, ob72 P, ob73 P, ob74 P, ob75 P, ob76 P, ob77 P]⟩, {}⟩
noncomputable def HE (P : Params) : Heap := ⟨⟨[boot_o_0 P, boot_o_1 P, ob10 P, ob78 P, boot_o_4 P, boot_o_5 P, boot_o_6 P, boot_o_7 P, boot_o_8 P, boot_o_9 P, boot_o_10 P, ob4 P, ob79 P, ob6 P, ob7 P, ob13 P, ob14 P, ob15 P, ob16 P, ob17 P, ob18 P, ob19 P, ob20 P, ob21 P, ob22 P, ob23 P, ob24 P, ob25 P, ob26 P, ob27 P, ob28 P, ob29 P, ob30 P, ob31 P, ob32 P, ob33 P, ob34 P, ob35 P, ob36 P, ob37 P, ob38 P, ob39 P, ob40 P, ob41 P, ob42 P, ob43 P, ob44 P, ob45 P, ob46 P, ob47 P, ob48 P, ob49 P, ob50 P, ob51 P, ob58 P, ob53 P, ob54 P, ob55 P, ob59 P, ob60 P, ob61 P, ob62 P, ob63 P, ob64 P, ob65 P, ob66 P, ob67 P, ob68 P, ob69 P, ob70 P, ob71 P, ob72 P, ob73 P, ob74 P, ob75 P, ob76 P, ob77 P, ob80 P, ob81 P, ob82 P, ob83 P, ob84 P, ob85 P, ob86 P, ob87 P, ob88 P, ob89 P, ob90 P, ob91 P, ob92 P, ob93 P, ob94 P, ob95 P, ob96 P, ob97 P, ob98 P, ob99 P, ob100 P, ob101 P, ob102 P, ob103 P, ob104 P, ob105 P, ob106 P, ob107 P, ob108 P, ob109 P, ob110 P, ob111 P, ob112 P, ob113 P, ob114 P, ob115 P, ob116 P, ob117 P, ob118 P, ob119 P, ob120 P, ob121 P, ob122 P, ob123 P, ob124 P, ob125 P, ob126 P, ob127 P, ob128 P, ob129 P, ob130 P, ob131 P, ob132 P, ob133 P, ob134 P, ob135 P, ob136 P, ob137 P, ob138 P, ob139 P, ob140 P, ob141 P, ob142 P, ob143 P, ob144 P, ob145 P, ob146 P, ob147 P, ob148 P, ob149 P, ob150 P, ob151 P, ob152 P, ob153 P, ob154 P, ob155 P, ob156 P, ob157 P, ob158 P, ob159 P, ob160 P, ob161 P, ob162 P, ob163 P, ob164 P, ob165 P, ob166 P, ob167 P, ob168 P, ob169 P, ob170 P, ob171 P, ob172 P, ob173 P, ob174 P, ob175 P, ob176 P, ob177 P, ob178 P, ob179 P, ob180 P, ob181 P, ob182 P, ob183 P, ob184 P, ob185 P, ob186 P, ob187 P, ob188 P, ob189 P, ob190 P, ob191 P, ob192 P, ob193 P, ob194 P, ob195 P, ob196 P, ob197 P, ob198 P, ob199 P, ob200 P, ob201 P, ob202 P, ob203 P, ob204 P, ob205 P, ob206 P, ob207 P, ob208 P, ob209 P, ob210 P, ob211 P, ob212 P, ob213 P, ob214 P, ob215 P, ob216 P, ob217 P, ob218 P, ob219 P, ob220 P, ob221 P, ob222 P, ob223 P, ob224 P, ob225 P, ob226 P, ob227 P, ob228 P, ob229 P, ob230 P, ob231 P, ob232 P, ob233 P, ob234 P, ob235 P, ob236 P, ob237 P, ob238 P, ob239 P, ob240 P, ob241 P, ob242 P, ob243 P, ob244 P, ob245 P, ob246 P, ob247 P, ob248 P, ob249 P, ob250 P, ob251 P, ob252 P]⟩, {}⟩
noncomputable def HF (P : Params) : Heap := ⟨⟨[boot_o_0 P, boot_o_1 P, ob10 P, ob343 P, boot_o_4 P, boot_o_5 P, boot_o_6 P, boot_o_7 P, boot_o_8 P, boot_o_9 P, boot_o_10 P, ob4 P, ob344 P, ob6 P, ob7 P, ob13 P, ob14 P, ob15 P, ob16 P, ob17 P, ob18 P, ob19 P, ob20 P, ob21 P, ob22 P, ob23 P, ob24 P, ob25 P, ob26 P, ob27 P, ob28 P, ob29 P, ob30 P, ob31 P, ob32 P, ob33 P, ob34 P, ob35 P, ob36 P, ob37 P, ob38 P, ob39 P, ob40 P, ob41 P, ob42 P, ob43 P, ob44 P, ob45 P, ob46 P, ob47 P, ob48 P, ob49 P, ob50 P, ob51 P, ob58 P, ob53 P, ob54 P, ob55 P, ob59 P, ob60 P, ob61 P, ob62 P, ob63 P, ob64 P, ob65 P, ob66 P, ob67 P, ob68 P, ob69 P, ob70 P, ob71 P, ob72 P, ob73 P, ob74 P, ob75 P, ob76 P, ob77 P, ob80 P, ob81 P, ob82 P, ob83 P, ob84 P, ob85 P, ob86 P, ob87 P, ob88 P, ob89 P, ob90 P, ob91 P, ob92 P, ob93 P, ob94 P, ob95 P, ob96 P, ob97 P, ob98 P, ob99 P, ob100 P, ob101 P, ob102 P, ob103 P, ob104 P, ob105 P, ob106 P, ob107 P, ob108 P, ob109 P, ob110 P, ob111 P, ob112 P, ob113 P, ob114 P, ob115 P, ob116 P, ob117 P, ob118 P, ob119 P, ob120 P, ob121 P, ob122 P, ob123 P, ob124 P, ob125 P, ob126 P, ob127 P, ob128 P, ob129 P, ob130 P, ob131 P, ob132 P, ob133 P, ob134 P, ob135 P, ob136 P, ob137 P, ob138 P, ob139 P, ob140 P, ob141 P, ob142 P, ob143 P, ob144 P, ob145 P, ob146 P, ob147 P, ob148 P, ob149 P, ob150 P, ob151 P, ob152 P, ob153 P, ob154 P, ob155 P, ob156 P, ob157 P, ob158 P, ob159 P, ob160 P, ob161 P, ob162 P, ob163 P, ob164 P, ob165 P, ob166 P, ob167 P, ob168 P, ob169 P, ob170 P, ob171 P, ob172 P, ob173 P, ob174 P, ob175 P, ob176 P, ob177 P, ob178 P, ob179 P, ob180 P, ob181 P, ob182 P, ob183 P, ob184 P, ob185 P, ob186 P, ob187 P, ob188 P, ob189 P, ob190 P, ob191 P, ob192 P, ob193 P, ob194 P, ob195 P, ob196 P, ob197 P, ob198 P, ob199 P, ob200 P, ob201 P, ob202 P, ob203 P, ob204 P, ob205 P, ob206 P, ob207 P, ob208 P, ob209 P, ob210 P, ob211 P, ob212 P, ob213 P, ob214 P, ob215 P, ob216 P, ob217 P, ob218 P, ob219 P, ob220 P, ob221 P, ob222 P, ob223 P, ob224 P, ob225 P, ob226 P, ob227 P, ob228 P, ob229 P, ob230 P, ob231 P, ob232 P, ob233 P, ob234 P, ob235 P, ob236 P, ob237 P, ob238 P, ob239 P, ob240 P, ob241 P, ob242 P, ob243 P, ob244 P, ob245 P, ob246 P, ob247 P, ob248 P, ob249 P, ob250 P, ob251 P, ob252 P, ob345 P, ob346 P, ob347 P, ob348 P, ob349 P, ob350 P, ob351 P, ob352 P, ob353 P, ob354 P, ob355 P, ob356 P, ob357 P, ob358 P, ob359 P, ob360 P, ob361 P, ob362 P, ob363 P, ob364 P, ob365 P, ob366 P, ob367 P, ob368 P, ob369 P, ob370 P, ob371 P, ob372 P, ob373 P, ob374 P, ob375 P, ob376 P, ob377 P, ob378 P, ob379 P, ob380 P, ob381 P, ob382 P, ob383 P, ob384 P, ob385 P]⟩, {}⟩
noncomputable def HG (P : Params) : Heap := ⟨⟨[boot_o_0 P, boot_o_1 P, ob10 P, ob386 P, boot_o_4 P, boot_o_5 P, boot_o_6 P, boot_o_7 P, boot_o_8 P, boot_o_9 P, boot_o_10 P, ob4 P, ob387 P, ob6 P, ob7 P, ob13 P, ob14 P, ob15 P, ob16 P, ob17 P, ob18 P, ob19 P, ob20 P, ob21 P, ob22 P, ob23 P, ob24 P, ob25 P, ob26 P, ob27 P, ob28 P, ob29 P, ob30 P, ob31 P, ob32 P, ob33 P, ob34 P, ob35 P, ob36 P, ob37 P, ob38 P, ob39 P, ob40 P, ob41 P, ob42 P, ob43 P, ob44 P, ob45 P, ob46 P, ob47 P, ob48 P, ob49 P, ob50 P, ob51 P, ob58 P, ob53 P, ob54 P, ob55 P, ob59 P, ob60 P, ob61 P, ob62 P, ob63 P, ob64 P, ob65 P, ob66 P, ob67 P, ob68 P, ob69 P, ob70 P, ob71 P, ob72 P, ob73 P, ob74 P, ob75 P, ob76 P, ob77 P, ob80 P, ob81 P, ob82 P, ob83 P, ob84 P, ob85 P, ob86 P, ob87 P, ob88 P, ob89 P, ob90 P, ob91 P, ob92 P, ob93 P, ob94 P, ob95 P, ob96 P, ob97 P, ob98 P, ob99 P, ob100 P, ob101 P, ob102 P, ob103 P, ob104 P, ob105 P, ob106 P, ob107 P, ob108 P, ob109 P, ob110 P, ob111 P, ob112 P, ob113 P, ob114 P, ob115 P, ob116 P, ob117 P, ob118 P, ob119 P, ob120 P, ob121 P, ob122 P, ob123 P, ob124 P, ob125 P, ob126 P, ob127 P, ob128 P, ob129 P, ob130 P, ob131 P, ob132 P, ob133 P, ob134 P, ob135 P, ob136 P, ob137 P, ob138 P, ob139 P, ob140 P, ob141 P, ob142 P, ob143 P, ob144 P, ob145 P, ob146 P, ob147 P, ob148 P, ob149 P, ob150 P, ob151 P, ob152 P, ob153 P, ob154 P, ob155 P, ob156 P, ob157 P, ob158 P, ob159 P, ob160 P, ob161 P, ob162 P, ob163 P, ob164 P, ob165 P, ob166 P, ob167 P, ob168 P, ob169 P, ob170 P, ob171 P, ob172 P, ob173 P, ob174 P, ob175 P, ob176 P, ob177 P, ob178 P, ob179 P, ob180 P, ob181 P, ob182 P, ob183 P, ob184 P, ob185 P, ob186 P, ob187 P, ob188 P, ob189 P, ob190 P, ob191 P, ob192 P, ob193 P, ob194 P, ob195 P, ob196 P, ob197 P, ob198 P, ob199 P, ob200 P, ob201 P, ob202 P, ob203 P, ob204 P, ob205 P, ob206 P, ob207 P, ob208 P, ob209 P, ob210 P, ob211 P, ob212 P, ob213 P, ob214 P, ob215 P, ob216 P, ob217 P, ob218 P, ob219 P, ob220 P, ob221 P, ob222 P, ob223 P, ob224 P, ob225 P, ob226 P, ob227 P, ob228 P, ob229 P, ob230 P, ob231 P, ob232 P, ob233 P, ob234 P, ob235 P, ob236 P, ob237 P, ob238 P, ob239 P, ob240 P, ob241 P, ob242 P, ob243 P, ob244 P, ob245 P, ob246 P, ob247 P, ob248 P, ob249 P, ob250 P, ob251 P, ob252 P, ob345 P, ob346 P, ob347 P, ob348 P, ob349 P, ob350 P, ob351 P, ob352 P, ob353 P, ob354 P, ob355 P, ob356 P, ob357 P, ob358 P, ob359 P, ob360 P, ob361 P, ob362 P, ob363 P, ob364 P, ob365 P, ob366 P, ob367 P, ob368 P, ob369 P, ob370 P, ob371 P, ob372 P, ob373 P, ob374 P, ob375 P, ob376 P, ob377 P, ob378 P, ob379 P, ob380 P, ob381 P, ob382 P, ob383 P, ob384 P, ob385 P, ob388 P, ob389 P, ob390 P, ob391 P, ob392 P, ob393 P, ob394 P, ob395 P, ob396 P, ob397 P, ob398 P, ob399 P, ob400 P, ob401 P, ob402 P, ob403 P, ob404 P, ob405 P, ob406 P, ob407 P, ob408 P, ob409 P, ob410 P, ob411 P, ob412 P, ob413 P, ob414 P, ob415 P, ob416 P, ob417 P, ob418 P, ob419 P, ob420 P, ob421 P, ob422 P, ob423 P, ob424 P, ob425 P, ob426 P, ob427 P, ob428 P, ob429 P, ob430 P, ob431 P, ob432 P, ob433 P, ob434 P, ob435 P, ob436 P, ob437 P, ob438 P, ob439 P, ob440 P, ob441 P, ob442 P, ob443 P, ob444 P, ob445 P, ob446 P, ob447 P, ob448 P, ob449 P]⟩, {}⟩
/-! the states between its pieces -/
noncomputable def bootS (w : World) (os : OsState) : Shared := ⟨boot_heap w.params, Array.mk [], boot_drawn, boot_toks, os⟩
noncomputable def stAt (H : Params → Heap) (k : Nat) (w : World) (os : OsState) : Shared := ⟨H w.params, Array.mk [], {}, k, os⟩
abbrev pw : Program := PySem.Challenge.pw_og0091_01
abbrev ann6 : Option Value := some (.ref 6)
abbrev pos0 : Pos := ⟨0, 0, 0, 0⟩
def env0 : Env := { scope := pw.main.scope, locals := mainNs, globals := mainNs, cells := [], code := .ref 13, frame := some 14 }
def lines : List Stmt := behindTheImports pw
def part (i n : Nat) : List Stmt := (lines.drop i).take n
def code0 : Code := .body lines env0
noncomputable def thr0 : Thread := ⟨denote treeTable code0, code0, pos0, [topFrame pos0]⟩
noncomputable def startL (w : World) (S : Shared) := topGo treeTable pw w 11 ann6 12 S (topStub pw)
noncomputable def blkL (w : World) (S : Shared) := segRun treeTable pw w 11 ann6 1 1 S (blockOf lines env0 code0 pos0 [topFrame pos0])
noncomputable def segL (n i k : Nat) (p : Pos) (w : World) (S : Shared) := segRun treeTable pw w 11 ann6 1 n S (piecesOf (part i k) env0 code0 p [topFrame pos0])
noncomputable def finL (p : Pos) (w : World) (S : Shared) := topRun treeTable pw w 11 ann6 2 S ⟨doneF .next, code0, p, [topFrame pos0]⟩
noncomputable def okB (h₀ : Heap) (s : Shared) : Bool := staticsOk (importedModules pw.main.body) h₀ s.heap && namesBound pw s.heap && gensDone s && laidKept h₀ s.heap
noncomputable def seenB (s : Shared) := openSeen vw lo (importedModules pw.main.body) (fun s => xlAt vw [] s && recOk (RowW.records PySem.Challenge.rw_og0091_01.row.toRowW) s) true s
noncomputable def goodB := openGood vw lo
lay_quick code0 thr0 startL blkL segL finL okB seenB goodB
/-! each piece of the run, and what is seen at its end: small checks by the kernel, over the library's own twins -/
section
variable (w : World) (os : OsState)
theorem pre_k : PySem.W.Fast.tw1355919375201820426 w (bootS w os) = some (stAt HA 187 w os, PySem.W.Fast.tw4281346740716500290) := by kernel_rfl
theorem blk_k : PySem.W.Fast.tw15506881668641304923 w (stAt HA 187 w os) = some (.next, stAt HA 187 w os, PySem.W.Fast.tw16392712966435388530, pos0) := by kernel_rfl
theorem seg1_k : PySem.W.Fast.tw1819127799378167864 345 0 5 pos0 w (stAt HA 187 w os) = some (.next, stAt HC 247 w os, PySem.W.Fast.tw16392712966435388530, ⟨15, 0, 23, 35⟩) := by kernel_rfl
theorem seg2_k : PySem.W.Fast.tw1819127799378167864 261 5 4 ⟨15, 0, 23, 35⟩ w (stAt HC 247 w os) = some (.next, stAt HD 274 w os, PySem.W.Fast.tw16392712966435388530, ⟨28, 0, 29, 39⟩) := by kernel_rfl
theorem seg3_k : PySem.W.Fast.tw1819127799378167864 904 9 1 ⟨28, 0, 29, 39⟩ w (stAt HD 274 w os) = some (.next, stAt HE 475 w os, PySem.W.Fast.tw16392712966435388530, ⟨30, 0, 122, 16⟩) := by kernel_rfl
theorem seg4_k : PySem.W.Fast.tw1819127799378167864 333 10 4 ⟨30, 0, 122, 16⟩ w (stAt HE 475 w os) = some (.next, stAt HF 544 w os, PySem.W.Fast.tw16392712966435388530, ⟨135, 0, 135, 9⟩) := by kernel_rfl
theorem seg5_k : PySem.W.Fast.tw1819127799378167864 268 14 5 ⟨135, 0, 135, 9⟩ w (stAt HF 544 w os) = some (.next, stAt HG 642 w os, PySem.W.Fast.tw16392712966435388530, ⟨166, 0, 182, 15⟩) := by kernel_rfl
theorem fin_k : PySem.W.Fast.tw2481525445443087112 ⟨166, 0, 182, 15⟩ w (stAt HG 642 w os) = some (stAt HG 642 w os) := by kernel_rfl
theorem ok_k : PySem.W.Fast.tw7053353435019927957 (boot_heap w.params) (stAt HG 642 w os) = true := by kernel_rfl
theorem seen_k : PySem.W.Fast.tw42421119080509040 (stAt HG 642 w os) = PySem.W.Fast.tw294421077743571105 := by kernel_rfl
theorem pre_is : startL w (bootS w os) = some (stAt HA 187 w os, thr0) := by
  rw [PySem.W.Fast.te1355919375201820426, PySem.W.Fast.te4281346740716500290]; exact pre_k w os
theorem blk_is : blkL w (stAt HA 187 w os) = some (.next, stAt HA 187 w os, code0, pos0) := by
  rw [PySem.W.Fast.te15506881668641304923, PySem.W.Fast.te16392712966435388530]; exact blk_k w os
theorem seg1_is : segL 345 0 5 pos0 w (stAt HA 187 w os) = some (.next, stAt HC 247 w os, code0, ⟨15, 0, 23, 35⟩) := by
  rw [PySem.W.Fast.te1819127799378167864, PySem.W.Fast.te16392712966435388530]; exact seg1_k w os
theorem seg2_is : segL 261 5 4 ⟨15, 0, 23, 35⟩ w (stAt HC 247 w os) = some (.next, stAt HD 274 w os, code0, ⟨28, 0, 29, 39⟩) := by
  rw [PySem.W.Fast.te1819127799378167864, PySem.W.Fast.te16392712966435388530]; exact seg2_k w os
theorem seg3_is : segL 904 9 1 ⟨28, 0, 29, 39⟩ w (stAt HD 274 w os) = some (.next, stAt HE 475 w os, code0, ⟨30, 0, 122, 16⟩) := by
  rw [PySem.W.Fast.te1819127799378167864, PySem.W.Fast.te16392712966435388530]; exact seg3_k w os
theorem seg4_is : segL 333 10 4 ⟨30, 0, 122, 16⟩ w (stAt HE 475 w os) = some (.next, stAt HF 544 w os, code0, ⟨135, 0, 135, 9⟩) := by
  rw [PySem.W.Fast.te1819127799378167864, PySem.W.Fast.te16392712966435388530]; exact seg4_k w os
theorem seg5_is : segL 268 14 5 ⟨135, 0, 135, 9⟩ w (stAt HF 544 w os) = some (.next, stAt HG 642 w os, code0, ⟨166, 0, 182, 15⟩) := by
  rw [PySem.W.Fast.te1819127799378167864, PySem.W.Fast.te16392712966435388530]; exact seg5_k w os
theorem fin_is : finL ⟨166, 0, 182, 15⟩ w (stAt HG 642 w os) = some (stAt HG 642 w os) := by
  rw [PySem.W.Fast.te2481525445443087112]; exact fin_k w os
theorem ok_is : okB (boot_heap w.params) (stAt HG 642 w os) = true := by
  rw [PySem.W.Fast.te7053353435019927957]; exact ok_k w os
theorem seen_is : seenB (stAt HG 642 w os) = goodB := by
  rw [PySem.W.Fast.te42421119080509040, PySem.W.Fast.te294421077743571105]; exact seen_k w os
end
theorem lines_cut : lines = part 0 5 ++ (part 5 4 ++ (part 9 1 ++ (part 10 4 ++ (part 14 5 ++ [])))) := by kernel_rfl
theorem run_is (w : World) (os : OsState) : topRun treeTable pw w 11 ann6 (12 + (1 + (345 + (261 + (904 + (333 + (268 + 2))))))) (bootS w os) (topStub pw) = some (stAt HG 642 w os) := by
  refine go_top (t' := ⟨denote treeTable (.body lines env0), code0, pos0, [topFrame pos0]⟩) (pre_is w os) ?_
  refine piece_block (blk_is w os) ?_
  rw [lines_cut]
  refine piece_app (seg1_is w os) ?_
  refine piece_app (seg2_is w os) ?_
  refine piece_app (seg3_is w os) ?_
  refine piece_app (seg4_is w os) ?_
  refine piece_app (seg5_is w os) ?_
  exact piece_nil (fin_is w os)
theorem opens : opening pw = plainProg pw.main.scope.names := by kernel_rfl
theorem fenced : ∀ s, fenceModules? pw s = some s := fun s => by kernel_rfl
theorem boot_is : ∀ w : World, (fencedOpening treeTable pw w 4338).map (fun s => (s.heap, s.gens, s.drawn, s.toks)) = some (boot_heap w.params, Array.mk [], boot_drawn, boot_toks) :=
  boot_open opens (by decide) fenced
theorem boot_size : ∀ w : World, ((boot_heap w.params).isNs mainGlobals && (Array.mk [] : Array GenState).size == 0, (boot_heap w.params).objs.size, (boot_heap w.params).nsMap mainGlobals "__annotations__") = (true, 11, ann6) := fun w => by kernel_rfl
theorem left_is {α : Type} {Yf : Shared → α} {Ya : World → α} (h : ∀ w os, Yf (stAt HG 642 w os) = Ya w) :
    LeftO pw vw lo (fun s => xlAt vw [] s && recOk (RowW.records PySem.Challenge.rw_og0091_01.row.toRowW) s) Yf Ya 4338 :=
  LeftO.of_pieces boot_is boot_size run_is (by decide) fun w => funext fun os => by
    show (okB (boot_heap w.params) (stAt HG 642 w os), seenB (stAt HG 642 w os), Yf (stAt HG 642 w os)) = (true, goodB, Ya w)
    rw [ok_is, seen_is, h]
end Og91
namespace Og91
local macro_rules | `(tactic| o_head (kmHook $K $as $e $ts)) => `(tactic|
  refine holds_open (r := PySem.Challenge.rw_og0091_01.row) (q := vw) (loose := lo) (XP := XL vw []) (YP := Hook.says (bHook "RESERVED" $K $as $e $ts)) (N := 4338)
    (left_is (Yf := Hook.obs (bHook "RESERVED" $K $as $e $ts)) (Ya := Hook.val (bHook "RESERVED" $K $as $e $ts)) fun w os => by kernel_rfl)
    (Hook.of (bHook "RESERVED" $K $as $e $ts)) (Hook.keeps (bHook "RESERVED" $K $as $e $ts)) (fun s e => xl_of s (Bool.and_eq_true_iff.mp e).1) XL.keeps (by rfl) (by rfl) (by rfl) (fun s e => recFacts_of (Bool.and_eq_true_iff.mp e).2) (by rfl) (by first | assumption | decide +kernel) (by decide +kernel) ⟨rfl, rfl, rfl, rfl, rfl, by decide +kernel⟩ ?hw ?hc)
local macro_rules | `(tactic| o_law) => `(tactic| refine holds_law Og91.well fun said => ?_)
open_top tp for PySem.Challenge.rw_og0091_01
end Og91
end

/-! Menu -/
section
open PySem PySem.W PySem.Calls PyProof.Rows Og91
set_option maxRecDepth 100000
set_option maxHeartbeats 8000000
namespace Og91
def kds : List Str := ["word", "word", "word", "sign", "word", "literal", "number", "word", "sign", "literal"]
def wds : List Str := ["END", "PROGRAM", "P", ".", "Q", "P", "1", "END-IF", "(", "."]
def kd (r : Int) : Str := kds.getD r.toNat "word"
def wd (r : Int) : Str := wds.getD r.toNat "P"
def mref (r : Int) : Addr := 280 + r.toNat
abbrev mv (r : Int) : Value := .ref (mref r)
def menuD (r : Int) : PyData := .tuple [.str (kd r), .str (wd r)]

theorem ten {r : Int} (h0 : 0 ≤ r) (h9 : r ≤ 9) : r = 0 ∨ r = 1 ∨ r = 2 ∨ r = 3 ∨ r = 4 ∨ r = 5 ∨ r = 6 ∨ r = 7 ∨ r = 8 ∨ r = 9 := by omega
section
variable {P : Params} {g : Heap}
theorem menu_at (X : (tp.heap_1 P).In g) : IsTup g 290 [Value.ref 280, .ref 281, .ref 282, .ref 283, .ref 284, .ref 285, .ref 286, .ref 287, .ref 288, .ref 289].toArray :=
  tupK (dd := none) (n := 0) (sl := #[]) X (by kernel_rfl)
theorem menu_item (X : (tp.heap_1 P).In g) {r : Int} (h0 : 0 ≤ r) (h9 : r ≤ 9) : ∃ t1 t2, IsTup g (mref r) [Value.str (kd r) t1, .str (wd r) t2].toArray := by
  rcases ten h0 h9 with rfl | rfl | rfl | rfl | rfl | rfl | rfl | rfl | rfl | rfl
  · exact ⟨523, 524, tupK (dd := none) (n := 0) (sl := #[]) X (by kernel_rfl)⟩
  · exact ⟨525, 526, tupK (dd := none) (n := 0) (sl := #[]) X (by kernel_rfl)⟩
  · exact ⟨527, 528, tupK (dd := none) (n := 0) (sl := #[]) X (by kernel_rfl)⟩
  · exact ⟨529, 530, tupK (dd := none) (n := 0) (sl := #[]) X (by kernel_rfl)⟩
  · exact ⟨531, 532, tupK (dd := none) (n := 0) (sl := #[]) X (by kernel_rfl)⟩
  · exact ⟨533, 534, tupK (dd := none) (n := 0) (sl := #[]) X (by kernel_rfl)⟩
  · exact ⟨535, 536, tupK (dd := none) (n := 0) (sl := #[]) X (by kernel_rfl)⟩
  · exact ⟨537, 538, tupK (dd := none) (n := 0) (sl := #[]) X (by kernel_rfl)⟩
  · exact ⟨539, 540, tupK (dd := none) (n := 0) (sl := #[]) X (by kernel_rfl)⟩
  · exact ⟨541, 542, tupK (dd := none) (n := 0) (sl := #[]) X (by kernel_rfl)⟩
theorem reads_tup {t : Addr} {vs : List Value} {ds : List PyData} {as : List Addr} (h : IsTup g t vs.toArray) (hr : ReadsAll g vs ds as) : ∃ bs, Reads g (.ref t) (.tuple ds) bs := by
  obtain ⟨o, ho, hc, n, hd⟩ := h
  exact ⟨_, reads_tuple_at ho hc hd (by simpa using hr)⟩
theorem menu_reads (X : (tp.heap_1 P).In g) {r : Int} (h0 : 0 ≤ r) (h9 : r ≤ 9) : ∃ bs, Reads g (mv r) (menuD r) bs := by
  obtain ⟨t1, t2, h⟩ := menu_item X h0 h9
  exact reads_tup h (.cons (.str _ _) (.cons (.str _ _) .nil))
theorem menus_read (X : (tp.heap_1 P).In g) : ∀ {xs : List Int}, (∀ r ∈ xs, 0 ≤ r ∧ r ≤ 9) → ∃ bs, ReadsAll g (xs.map mv) (xs.map menuD) bs
  | [], _ => ⟨_, .nil⟩
  | r :: xs, h => by
    obtain ⟨b, h1⟩ := menu_reads X (h r (.head _)).1 (h r (.head _)).2
    obtain ⟨bs, h2⟩ := menus_read X (xs := xs) fun q hq => h q (.tail _ hq)
    exact ⟨_, .cons h1 h2⟩
end
/-- the item of the menu at a place -/
theorem menu_get {prog : Program} {w : World} {A : Around} {E : Value → Shared → Prop} {s : Shared} {value slice : PySem.Expr} {r : Int} {u : Tok} {Q : Value → Shared → Prop} (X : (tp.heap_1 w.params).In s.heap) (h0 : 0 ≤ r) (h9 : r ≤ 9) (h : Q (mv r) s)
    (hs : subscripted slice false (.ref 290) (.int r u) = operate [.ref 290, .int r u] (getItem (.ref 290) (.int r u)) := by with_unfolding_all rfl) :
    wpAny (model prog w) A (subscriptTail value slice (.ref 290) (.int r u)) Q E s := by
  refine item_tupleT (j := r.toNat) (menu_at X) (by omega) (by omega) ?_ ?_ h hs
  · unfold seqIndex?
    rcases ten h0 h9 with rfl | rfl | rfl | rfl | rfl | rfl | rfl | rfl | rfl | rfl <;> rfl
  · rcases ten h0 h9 with rfl | rfl | rfl | rfl | rfl | rfl | rfl | rfl | rfl | rfl <;> rfl
end Og91
namespace Og91
open LCg
section
variable {prog : Program} {w : World} {A : Around} {s : Shared} {h₀ : Heap} {L : Addr} {m mg mb : Str → Option Value} {env : Env} {scope : Scope} {cl : List (Str × Addr)} {p : Program} {loose : List Str} {mean : ExcName → Option Value}
theorem menu_elt {E : Value → Shared → Prop} {C : Addr} {oC : Obj} {m₂ : Str → Option Value} {news : List (Addr × Obj)} {r : Int} {t : Tok} {p1 p2 p3 : Pos} {Q : Value → Shared → Prop}
    (F : Fr h₀ L s.heap m) (X : (tp.heap_1 w.params).In h₀) (T : Top p loose mean mg mb h₀) (N : News h₀ L s.heap news) (hm : (C, oC) ∈ news) (hC : NsObj oC m₂) (hx : m₂ "one" = some (.int r t)) (h0 : 0 ≤ r) (h9 : r ≤ 9)
    (hg : env.globals = mainGlobals) (hk : (compEnvC scope cl C env).scope.kind = .function) (k1 : (compEnvC scope cl C env).kindOf "_law_MENU" = some .globalImplicit) (k2 : (compEnvC scope cl C env).kindOf "one" = some .local)
    (h : Q (mv r) s) : wpAny (model prog w) A (eval (.Subscript (.Name "_law_MENU" p1) (.Name "one" p2) p3) (compEnvC scope cl C env)) Q E s := by
  refine Subscript_ (LCgL.ld_global F X T (v := .ref 290) (by kernel_rfl) ?_ hg hk k1)
  refine LCgL.ld_own N hm hC hx ?_ hk k2
  exact menu_get (X.keeps F.keep) h0 h9 h
theorem menu_rest {p1 p2 p3 : Pos} {S : List (Addr × Obj) → Prop} {its : Array Value} {ns : List Int} {Fin : List Value → List (Addr × Obj) → Prop} {news : List (Addr × Obj)}
    (X : (tp.heap_1 w.params).In h₀) (T : Top p loose mean mg mb h₀) (hI : IntsAre its.toList ns) (hr : ∀ r ∈ ns, 0 ≤ r ∧ r ≤ 9) (hS : S news) (hF : Fin (ns.map mv) news)
    (hg : env.globals = mainGlobals) (hk : ∀ C, (compEnvC scope cl C env).scope.kind = .function) (k1 : ∀ C, (compEnvC scope cl C env).kindOf "_law_MENU" = some .globalImplicit) (k2 : ∀ C, (compEnvC scope cl C env).kindOf "one" = some .local) :
    ∀ n i, i + n = ns.length → CompRest prog w A h₀ L m env (.Subscript (.Name "_law_MENU" p1) (.Name "one" p2) p3) "one" scope cl s S (fun i v => its[i]? = some v) Fin n i ((ns.take i).map mv) news
  | 0, i, e => by
    refine CompRest.zero ?_
    rw [List.take_of_length_le (by omega)]
    exact hF
  | n + 1, i, e => by
    refine CompRest.succ fun v I oI C oC D m₂ h tk E' hv hC hx F N off ne => ?_
    have hi : i < ns.length := by omega
    obtain ⟨t, ht⟩ := hI.get i ns[i] (by simp [hi])
    have hv' : v = .int ns[i] t := by
      rw [← Array.getElem?_toList] at hv
      rw [ht] at hv
      exact (Option.some.inj hv).symm
    subst hv'
    have hb := hr ns[i] (List.getElem_mem hi)
    refine menu_elt (s := { s with heap := h, toks := tk }) F X T N (.tail _ (.head _)) hC hx hb.1 hb.2 hg (hk C) (k1 C) (k2 C) ⟨h, tk, news, rfl, F, N, off, hS, ?_⟩
    have key := menu_rest (S := S) (Fin := Fin) (p1 := p1) (p2 := p2) (p3 := p3) X T hI hr hS hF hg hk k1 k2 n (i + 1) (by omega)
    have e2 : (ns.take (i + 1)).map mv = (ns.take i).map mv ++ [mv ns[i]] := by
      rw [List.take_add_one, List.getElem?_eq_getElem hi, List.map_append]
      rfl
    rw [e2] at key
    exact key
end
end Og91
end

/-! Due0 -/
section
open PySem PySem.W PySem.Calls PyProof.Rows Og91
set_option maxRecDepth 100000
set_option maxHeartbeats 8000000
namespace Og91
def wt (k w : Str) : PyData := .tuple [.str k, .str w]
theorem menu_can : ∀ {xs : List Int}, (∀ r ∈ xs, 0 ≤ r ∧ r ≤ 9) → PyData.canLayAll0 (xs.map menuD) = true ∧ PyData.depthAll (xs.map menuD) ≤ 2
  | [], _ => ⟨rfl, Nat.zero_le _⟩
  | r :: xs, h => by
    obtain ⟨a, b⟩ := menu_can (xs := xs) fun q hq => h q (.tail _ hq)
    have hh := h r (.head _)
    have e : PyData.canLay0 (menuD r) = true ∧ (menuD r).depth = 1 := by
      rcases ten hh.1 hh.2 with rfl | rfl | rfl | rfl | rfl | rfl | rfl | rfl | rfl | rfl <;> exact ⟨by decide +kernel, by decide +kernel⟩
    simp only [List.map_cons, PyData.canLayAll0, PyData.depthAll, e.1, e.2, a, Bool.and_self, true_and]
    omega
theorem menu_shaped {xs : List Int} (h : ∀ r ∈ xs, 0 ≤ r ∧ r ≤ 9) : SeqAt.shaped (.list (xs.map menuD)) = true := by
  obtain ⟨a, b⟩ := menu_can h
  unfold SeqAt.shaped
  rw [Bool.and_eq_true]
  refine ⟨by rw [PyData.canLay0]; exact a, ?_⟩
  rw [decide_eq_true_eq, PyData.depth]
  omega
def pickI (xs : List Int) (lo hi : Option Int) : List Int := (xs.drop (kms_lo lo xs.length)).take (kms_hi hi xs.length - kms_lo lo xs.length)
theorem pick_map (xs : List Int) (lo hi : Option Int) : kms_pick (xs.map mv) lo hi = (pickI xs lo hi).map mv := by
  unfold kms_pick pickI
  rw [List.length_map, List.map_take, List.map_drop]
theorem pick_1 (xs : List Int) : pickI xs none (some 2) = xs.take 2 := by
  unfold pickI kms_lo kms_hi
  simp
theorem pick_2 (xs : List Int) : pickI xs (some 2) (some 3) = (xs.drop 2).take 1 := by
  unfold pickI kms_lo kms_hi
  simp
  match xs with
  | [] => rfl
  | [_] => rfl
  | [_, _] => rfl
  | _ :: _ :: _ :: _ => simp
theorem pick_3 (xs : List Int) : pickI xs (some 3) (some 4) = (xs.drop 3).take 1 := by
  unfold pickI kms_lo kms_hi
  simp
  match xs with
  | [] => rfl
  | [_] => rfl
  | [_, _] => rfl
  | [_, _, _] => rfl
  | _ :: _ :: _ :: _ :: _ => simp
section
variable {prog : Program} {w : World} {A : Around} {E : Value → Shared → Prop} {s : Shared} {h₀ : Heap} {L : Addr} {m : Str → Option Value} {news : List (Addr × Obj)} {value slice : PySem.Expr} {xs ys : List Int} {D : Addr} {k : Nat} {u v : Tok} {Q : Value → Shared → Prop}
theorem slice_menu {vl vu : Value} {lo hi : Option Int} (F : Fr h₀ L s.heap m) (N : News h₀ L s.heap news) (hm : (D, W.listOf (xs.map mv).toArray k) ∈ news) (hlen : xs.length ≤ 11) (pl : IsPart vl lo) (pu : IsPart vu hi) (e : pickI xs lo hi = ys)
    (h : ∀ D' h', Fr h₀ L h' m → News h₀ L h' ((D', W.listOf (ys.map mv).toArray 0) :: news) → (∀ p ∈ news, p.1 < D') → Q (.ref D') { s with heap := h' })
    (hs : subscripted slice false (.ref D) (.ref s.heap.objs.size) = operate [.ref s.heap.objs.size, .ref D] (getItem (.ref D) (.ref s.heap.objs.size))) (ht : ∀ r, letTemporaryGo value (.ref D) r = pure ()) :
    wpAny (model prog w) A (subscriptTail value slice (.ref D) (.ref s.heap.objs.size)) Q E { s with heap := s.heap.push { cls := .type "slice", data := .fields #[vl, vu, .none] } } := by
  refine kms_slice_lit F N (PySem.IsL.isList (n := k) (N _ hm).1) pl pu (zs := ys.map mv) ?_ h hs ht (by rw [List.size_toArray, List.length_map, sizeLine_eq]; omega)
  rw [← e]
  exact pick_map xs lo hi
theorem menu_list_reads {x : Addr} (F : Fr h₀ L s.heap m) (N : News h₀ L s.heap news) (X : (tp.heap_1 w.params).In h₀) (hm : (x, W.listOf (ys.map mv).toArray k) ∈ news) (hr : ∀ r ∈ ys, 0 ≤ r ∧ r ≤ 9) : ∃ as, Reads s.heap (.ref x) (.list (ys.map menuD)) as := by
  obtain ⟨bs, h⟩ := menus_read (X.keeps F.keep) hr
  exact ⟨_, reads_list_at (N _ hm).1 rfl rfl (by simpa using h)⟩
theorem ne_menu {x y : Addr} {es : List PyData} {bs : List Addr} (F : Fr h₀ L s.heap m) (N : News h₀ L s.heap news) (X : (tp.heap_1 w.params).In h₀) (hm : (x, W.listOf (ys.map mv).toArray k) ∈ news) (hr : ∀ r ∈ ys, 0 ≤ r ∧ r ≤ 9)
    (rb : Reads s.heap (.ref y) (.list es) bs) (hb : SeqAt.shaped (.list es) = true) (hu : A.units + 64 < cLine) (h : Q (.bool (!PyData.eqv (.list (ys.map menuD)) (.list es))) s) : wpAny (model prog w) A (compareOp .NotEq (.ref x) (.ref y)) Q E s := by
  obtain ⟨as, ra⟩ := menu_list_reads F N X hm hr
  exact ne_dataH ra rb (menu_shaped hr) hb hu h
theorem notin_menu {x y : Addr} {es : List PyData} {bs : List Addr} (F : Fr h₀ L s.heap m) (N : News h₀ L s.heap news) (X : (tp.heap_1 w.params).In h₀) (hm : (x, W.listOf (ys.map mv).toArray k) ∈ news) (hr : ∀ r ∈ ys, 0 ≤ r ∧ r ≤ 9)
    (rb : Reads s.heap (.ref y) (.tuple es) bs) (hb : SeqAt.shaped (.tuple es) = true) (hu : A.units + 74 < cLine) (h : Q (.bool (!es.any fun z => PyData.eqv z (.list (ys.map menuD)))) s) : wpAny (model prog w) A (compareOp .NotIn (.ref x) (.ref y)) Q E s := by
  obtain ⟨as, ra⟩ := menu_list_reads F N X hm hr
  obtain ⟨a, b⟩ := menu_can hr
  have hd := SeqAt.depth_of_shaped hb
  have hc := SeqAt.canLay_of_shaped hb
  rw [PyData.depth] at hd
  rw [PyData.canLay0] at hc
  refine SeqAt.notIn_tuple_reads rb ra hc (by rw [PyData.canLay0]; exact a) ?_ h
  have := Nat.min_le_left (PyData.depthAll es) (PyData.list (ys.map menuD)).depth
  omega
end
/-- a row: a list of the ledger, or a tuple of the top -/
def RowAt (P : Params) (news : List (Addr × Obj)) (r : Addr) (vs : List Value) : Prop := (∃ n, (r, W.listOf vs.toArray n) ∈ news) ∨ ∀ g, (tp.heap_1 P).In g → IsTup g r vs.toArray
theorem RowAt.more {P : Params} {news news' : List (Addr × Obj)} {r : Addr} {vs : List Value} (h : RowAt P news r vs) (hs : ∀ p ∈ news, p ∈ news') : RowAt P news' r vs := h.imp (fun ⟨n, hn⟩ => ⟨n, hs _ hn⟩) id
section
variable {prog : Program} {w : World} {A : Around} {E : Value → Shared → Prop} {s : Shared} {h₀ : Heap} {L : Addr} {m : Str → Option Value} {news : List (Addr × Obj)} {r : Addr} {vs : List Value} {ns : List Int} {Q : Value → Shared → Prop}
theorem len_row (F : Fr h₀ L s.heap m) (N : News h₀ L s.heap news) (X : (tp.heap_1 w.params).In h₀) (hrow : RowAt w.params news r vs) (hI : IntsAre vs ns) (hlen : ns.length ≤ 11) (h : Q (.int (ns.length : Nat) (s.toks + 1)) { s with toks := s.toks + 1 + 1 }) :
    wpAny (model prog w) A (call (.builtin "len") [.ref r]) Q E s := by
  have e : vs.toArray.size = ns.length := by simp [hI.length]
  rcases hrow with ⟨n, hn⟩ | hT
  · exact len_list (PySem.IsL.isList (n := n) (N _ hn).1) (by omega) (by rw [e]; exact h)
  · exact len_tuple (hT _ (X.keeps F.keep)) (by omega) (by rw [e]; exact h)
end
end Og91
end

/-! Rd0 -/
section
open PySem PySem.W PySem.Calls PyProof.Rows Og91
set_option maxRecDepth 100000
set_option maxHeartbeats 8000000
namespace Og91
/-- the reader's dict -/
abbrev rdD (P : Params) (t1 t2 t3 : Tok) (tl : Addr) (k : Int) (tk : Tok) (nd : Addr) : Obj :=
  dictOf [DictEntry.mk (PyData.keyHash P "tokens") (.str "tokens" t1) (.ref tl), DictEntry.mk (PyData.keyHash P "at") (.str "at" t2) (.int k tk), DictEntry.mk (PyData.keyHash P "named") (.str "named" t3) (.ref nd)] 3
abbrev tkD (P : Params) (t1 t2 t3 t4 : Tok) (k w : Str) (tk tw : Tok) (pa : Addr) : Obj :=
  dictOf [DictEntry.mk (PyData.keyHash P "kind") (.str "kind" t1) (.str k tk), DictEntry.mk (PyData.keyHash P "worth") (.str "worth" t2) (.str w tw),
    DictEntry.mk (PyData.keyHash P "at") (.str "at" t3) (.ref pa), DictEntry.mk (PyData.keyHash P "is_in_a") (.str "is_in_a" t4) (.bool false)] 4
abbrev tupO (vs : Array Value) : Obj := { cls := .type "tuple", data := .seq vs }
/-- a token of the ledger -/
def TokAt (P : Params) (news : List (Addr × Obj)) (x : Addr) (r : Int) (i : Nat) : Prop :=
  ∃ d pa t1 t2 t3 t4 tk tw u1 u2, (x, instObj 275 d) ∈ news ∧ (d, tkD P t1 t2 t3 t4 (kd r) (wd r) tk tw pa) ∈ news ∧ (pa, tupO #[.int 1 u1, .int ((i : Int) + 1) u2]) ∈ news
theorem TokAt.mono {P : Params} {news news' : List (Addr × Obj)} {x : Addr} {r : Int} {i : Nat} (h : TokAt P news x r i) (hs : ∀ p ∈ news, p ∈ news') : TokAt P news' x r i := by
  obtain ⟨d, pa, t1, t2, t3, t4, tk, tw, u1, u2, a, b, c⟩ := h
  exact ⟨d, pa, t1, t2, t3, t4, tk, tw, u1, u2, hs _ a, hs _ b, hs _ c⟩
structure Toks (P : Params) (news : List (Addr × Obj)) (tl : Addr) (ts : List Addr) (rs : List Int) : Prop where
  list : ∃ n, (tl, W.listOf (ts.map Value.ref).toArray n) ∈ news
  len : ts.length = rs.length
  small : rs.length ≤ 11
  rng : ∀ r ∈ rs, 0 ≤ r ∧ r ≤ 9
  tok : ∀ (i : Nat) (r : Int), rs[i]? = some r → ∃ x, ts[i]? = some x ∧ TokAt P news x r i
theorem Toks.mono {P : Params} {news news' : List (Addr × Obj)} {tl : Addr} {ts : List Addr} {rs : List Int} (h : Toks P news tl ts rs) (hs : ∀ p ∈ news, p ∈ news') : Toks P news' tl ts rs where
  list := let ⟨n, e⟩ := h.list; ⟨n, hs _ e⟩
  len := h.len
  small := h.small
  rng := h.rng
  tok := fun i r e => let ⟨x, a, b⟩ := h.tok i r e; ⟨x, a, b.mono hs⟩
/-- the reader in the ledger, at k -/
def RdIn (P : Params) (news : List (Addr × Obj)) (rd tl : Addr) (k : Nat) : Prop :=
  ∃ dd nd t1 t2 t3 tk, (rd, instObj 245 dd) ∈ news ∧ (dd, rdD P t1 t2 t3 tl (k : Int) tk nd) ∈ news
theorem RdIn.mono {P : Params} {news news' : List (Addr × Obj)} {rd tl : Addr} {k : Nat} (h : RdIn P news rd tl k) (hs : ∀ p ∈ news, p ∈ news') : RdIn P news' rd tl k := by
  obtain ⟨dd, nd, t1, t2, t3, tk, a, b⟩ := h
  exact ⟨dd, nd, t1, t2, t3, tk, hs _ a, hs _ b⟩
/-- what stands at a place -/
def kindIs (rs : List Int) (i : Nat) (k : Str) : Bool := match rs[i]? with
  | some r => kd r == k
  | none => false
def worthIs (rs : List Int) (i : Nat) (k : Str) : Bool := match rs[i]? with
  | some r => wd r == k
  | none => false
/-- for all callers: a call of f with these args gives back what Out says, all else as it was -/
def Gives (prog : Program) (w : World) (p : Program) (loose : List Str) (mean : ExcName → Option Value) (mg mb : Str → Option Value) (room : Nat) (Pre : List (Addr × Obj) → Prop) (f : Addr) (args : List Value) (Out : List (Addr × Obj) → Value → Prop) : Prop :=
  ∀ (dp un : Nat) (gd : Option (List Code)) (cn : Str) (cs : Scope) (a : Addr) (ccd : Value) (cl : List (Str × Addr)) (outer : List Env) (A₀ : Around) (base h₀ : Heap) (L : Addr) (m : Str → Option Value) (news : List (Addr × Obj)) (s : Shared)
    (Q E : Value → Shared → Prop),
    Below A₀ base outer h₀ → Fr h₀ L s.heap m → (tp.heap_1 w.params).In h₀ → News h₀ L s.heap news → Top p loose mean mg mb h₀ → cs.kind = .function → Pre news → dp + room < recursionLimit → un + 8 * room < cLine →
    (∀ v h' tk', Fr h₀ L h' m → News h₀ L h' news → Out news v → Q v { s with heap := h', toks := tk' }) →
    wpAny (model prog w) (ktrTop dp un gd cn cs L a ccd cl outer) (call (.ref f) args) Q E s
end Og91
end

/-! Tok0 -/
section
open PySem PySem.W PySem.Calls PySem.Spec PyProof.Rows Og91
set_option maxRecDepth 100000
set_option maxHeartbeats 4000000
namespace Og91
section
open LCg
variable {prog : Program} {w : World} {A : Around} {s : Shared} {h₀ : Heap} {L : Addr} {m : Str → Option Value} {env : Env} {elt : Expr} {x : Str} {scope : Scope} {cl : List (Str × Addr)}
/-- a comprehension by what holds between its turns -/
theorem rest_ind {S : List (Addr × Obj) → Prop} {P : Nat → Value → Prop} {Fin : List Value → List (Addr × Obj) → Prop} {n : Nat} (Inv : Nat → List Value → List (Addr × Obj) → Prop)
    (step : ∀ i ys news v I oI C oC D m₂ h tk (E' : Value → Shared → Prop), i < n → Inv i ys news → P i v → NsObj oC m₂ → m₂ x = some v → Fr h₀ L h m → News h₀ L h ((I, oI) :: (C, oC) :: (D, lst ys) :: news) → Off3 I C D news → ((@Ne Nat I C) ∧ (@Ne Nat I D) ∧ (@Ne Nat C D)) →
      wpAny (model prog w) A (eval elt (compEnvC scope cl C env)) (CompEnd h₀ L m { s with heap := h, toks := tk } I oI C oC D (lst ys) S (fun y news' => Inv (i + 1) (ys ++ [y]) news')) E' { s with heap := h, toks := tk })
    (fin : ∀ ys news, Inv n ys news → Fin ys news) : ∀ k i ys news, i + k = n → Inv i ys news → CompRest prog w A h₀ L m env elt x scope cl s S P Fin k i ys news
  | 0, i, ys, news, e, hI => CompRest.zero (fin ys news ((show i = n from e) ▸ hI))
  | k + 1, i, ys, news, e, hI => CompRest.succ fun v I oI C oC D m₂ h tk E' hv hC hx F N off ne =>
    wpAny_mono (step i ys news v I oI C oC D m₂ h tk E' (by omega) hI hv hC hx F N off ne) (fun y s₂ c => by
      obtain ⟨h', tk', news', e1, F', N', o', hS, r⟩ := c
      exact ⟨h', tk', news', e1, F', N', o', hS, rest_ind Inv step fin k (i + 1) _ _ (by omega) r⟩) fun _ _ e => e
end
section
variable {prog : Program} {w : World} {A : Around} {E : Value → Shared → Prop} {s : Shared} {value slice : PySem.Expr} {h₀ : Heap} {L : Addr} {m : Str → Option Value} {news : List (Addr × Obj)} {r : Addr} {vs : List Value} {ns : List Int} {Q : Value → Shared → Prop}
/-- an item of a row -/
theorem item_row {i : Nat} {z : Int} {u : Tok} (F : Fr h₀ L s.heap m) (N : News h₀ L s.heap news) (X : (tp.heap_1 w.params).In h₀) (hrow : RowAt w.params news r vs) (hI : IntsAre vs ns) (hlen : ns.length ≤ 11) (hz : z = (i : Int)) (hi : i < ns.length)
    (h : ∀ x t, ns[i]? = some x → Q (.int x t) s)
    (hs : subscripted slice false (.ref r) (.int z u) = operate [.ref r, .int z u] (getItem (.ref r) (.int z u)) := by with_unfolding_all rfl) :
    wpAny (model prog w) A (subscriptTail value slice (.ref r) (.int z u)) Q E s := by
  subst hz
  obtain ⟨t, ht⟩ := hI.get i ns[i] (by simp [hi])
  have hb : ((i : Nat) : Int) < 2 ^ 63 := by omega
  rcases hrow with ⟨n, hn⟩ | hT
  · have hl := PySem.IsL.isList (n := n) (N _ hn).1
    exact tail_any hl.typeIs slot_list_getitem.lookup (wpAny_getItem_list (k := (i : Int)) (x := .int ns[i] t) hl (Int.natCast_nonneg i) hb (by simpa using ht) (h ns[i] t (by simp [hi]))) hs
  · refine item_tupleT (j := i) (hT _ (X.keeps F.keep)) (by omega) (by omega) ?_ (by simpa using ht) (h ns[i] t (by simp [hi])) hs
    unfold seqIndex?
    have hv : vs.length = ns.length := hI.length
    have h1 : ¬ (((i : Nat) : Int) < 0) := by omega
    simp [h1, hi, hv]
theorem menu_kind {q : Int} {u : Tok} (F : Fr h₀ L s.heap m) (X : (tp.heap_1 w.params).In h₀) (h0 : 0 ≤ q) (h9 : q ≤ 9) (h : ∀ t, Q (.str (kd q) t) s)
    (hs : subscripted slice false (.ref (mref q)) (.int 0 u) = operate [.ref (mref q), .int 0 u] (getItem (.ref (mref q)) (.int 0 u)) := by with_unfolding_all rfl) :
    wpAny (model prog w) A (subscriptTail value slice (.ref (mref q)) (.int 0 u)) Q E s := by
  obtain ⟨t1, t2, hT⟩ := menu_item (X.keeps F.keep) h0 h9
  exact item_tupleT (j := 0) hT (by omega) (by omega) rfl rfl (h t1) hs
theorem menu_word {q : Int} {u : Tok} (F : Fr h₀ L s.heap m) (X : (tp.heap_1 w.params).In h₀) (h0 : 0 ≤ q) (h9 : q ≤ 9) (h : ∀ t, Q (.str (wd q) t) s)
    (hs : subscripted slice false (.ref (mref q)) (.int 1 u) = operate [.ref (mref q), .int 1 u] (getItem (.ref (mref q)) (.int 1 u)) := by with_unfolding_all rfl) :
    wpAny (model prog w) A (subscriptTail value slice (.ref (mref q)) (.int 1 u)) Q E s := by
  obtain ⟨t1, t2, hT⟩ := menu_item (X.keeps F.keep) h0 h9
  exact item_tupleT (j := 1) hT (by omega) (by omega) rfl rfl (h t2) hs
end
end Og91
namespace Og91
theorem range_size {n : Nat} : Builtin.Range.rangeSize 0 (n : Int) 1 = (n : Int) := by
  unfold Builtin.Range.rangeSize
  rw [if_pos (by decide)]
  split <;> omega
theorem range_src {prog : Program} {w : World} {A : Around} {h₀ : Heap} {L : Addr} {m : Str → Option Value} {env : Env} {elt : Expr} {x : Str} {scope : Scope} {cl : List (Str × Addr)} {Fin : Shared → List Value → List (Addr × Obj) → Prop} {r : Addr} {t u v : Tok} {n : Nat} {news : List (Addr × Obj)} {s₁ : Shared}
    (hh : A.handled = none) (F : Fr h₀ L s₁.heap m) (N : News h₀ L s₁.heap news) (hr : IsRange s₁.heap r 0 (n : Int) 1 t u v) (hn : n ≤ 11)
    (h : ∀ g, LCg.CompRest prog w A h₀ L m env elt x scope cl { s₁ with heap := g } (fun _ => True) (fun i v => ∃ t, v = .int (0 + (i : Int)) t) (Fin { s₁ with heap := g }) n 0 [] news) :
    LCg.CompSrc prog w A h₀ L m env elt x scope cl Fin (.ref r) s₁ :=
  LCg.CompSrc.range hh F N hr (PySem.small_one (by omega) (by omega) (by omega) (by omega)) range_size (by rw [sizeLine_eq]; omega) h
end Og91
namespace Og91
theorem row_lo {rs : List Int} {i : Nat} {q : Int} (hr : ∀ x ∈ rs, 0 ≤ x ∧ x ≤ 9) (e : rs[i]? = some q) : 0 ≤ q := (hr q (List.mem_of_getElem? e)).1
theorem row_hi {rs : List Int} {i : Nat} {q : Int} (hr : ∀ x ∈ rs, 0 ≤ x ∧ x ≤ 9) (e : rs[i]? = some q) : q ≤ 9 := (hr q (List.mem_of_getElem? e)).2
end Og91
end

/-! Tok1 -/
section
open PySem PySem.W PySem.Calls PySem.Spec PyProof.Rows Og91
set_option maxRecDepth 100000
set_option maxHeartbeats 1000000
namespace Og91
def AnsInv (P : Params) (c : Addr × Obj) (news : List (Addr × Obj)) (rs : List Int) (i : Nat) (ys : List Value) (nw : List (Addr × Obj)) : Prop :=
  c ∈ nw ∧ (∀ p ∈ news, p ∈ nw) ∧ ∃ ts : List Addr, ys = ts.map Value.ref ∧ ts.length = i ∧ ∀ (j : Nat) (q : Int), j < i → rs[j]? = some q → ∃ x, ts[j]? = some x ∧ TokAt P nw x q j
open LCg in
theorem tok_end {P : Params} {h₀ h' : Heap} {L I C D x d pa : Addr} {m : Str → Option Value} {s₁ : Shared} {oI oC : Obj} {c : Addr × Obj} {news nw : List (Addr × Obj)} {rs : List Int} {i : Nat} {q q2 : Int} {ts : List Addr} {t1 t2 t3 t4 tk tw u1 u2 : Tok} {tk' : Nat}
    (F : Fr h₀ L h' m) (N : News h₀ L h' ((x, instObj 275 d) :: (d, tkD P t1 t2 t3 t4 (kd q) (wd q2) tk tw pa) :: (pa, tupO #[.int 1 u1, .int ((i : Int) + 1) u2]) :: (I, oI) :: (C, oC) :: (D, lst (ts.map Value.ref)) :: nw))
    (off : Off3 I C D nw) (lt : @LT.lt Nat _ I pa ∧ @LT.lt Nat _ C pa ∧ @LT.lt Nat _ D pa ∧ @LT.lt Nat _ pa d ∧ @LT.lt Nat _ d x) (e : rs[i]? = some q) (e2 : rs[i]? = some q2)
    (mc : c ∈ nw) (hsub : ∀ p ∈ news, p ∈ nw) (hts : ts.length = i) (htok : ∀ (j : Nat) (q : Int), j < i → rs[j]? = some q → ∃ x, ts[j]? = some x ∧ TokAt P nw x q j) :
    CompEnd h₀ L m s₁ I oI C oC D (lst (ts.map Value.ref)) (fun _ => True) (fun y news' => AnsInv P c news rs (i + 1) (ts.map Value.ref ++ [y]) news') (.ref x) { s₁ with heap := h', toks := tk' } := by
  obtain rfl : q = q2 := by rw [e] at e2; exact Option.some.inj e2
  obtain ⟨l1, l2, l3, l4, l5⟩ := lt
  refine CompEnd.intro F N ((x, instObj 275 d) :: (d, tkD P t1 t2 t3 t4 (kd q) (wd q) tk tw pa) :: (pa, tupO #[.int 1 u1, .int ((i : Int) + 1) u2]) :: nw) (fun p hp => ?_) ?_ trivial ?_
  · rcases List.mem_cons.mp hp with h | hp
    · exact h ▸ .tail _ (.tail _ (.tail _ (.head _)))
    · rcases List.mem_cons.mp hp with h | hp
      · exact h ▸ .tail _ (.tail _ (.tail _ (.tail _ (.head _))))
      · rcases List.mem_cons.mp hp with h | hp
        · exact h ▸ .tail _ (.tail _ (.tail _ (.tail _ (.tail _ (.head _)))))
        · rcases List.mem_cons.mp hp with h | hp
          · exact h ▸ .head _
          · rcases List.mem_cons.mp hp with h | hp
            · exact h ▸ .tail _ (.head _)
            · rcases List.mem_cons.mp hp with h | hp
              · exact h ▸ .tail _ (.tail _ (.head _))
              · exact .tail _ (.tail _ (.tail _ (.tail _ (.tail _ (.tail _ hp)))))
  · have n1 : ∀ {a b : Nat}, b < a → a ≠ b := fun h => Nat.ne_of_gt h
    refine ⟨⟨n1 ?_, n1 ?_, n1 ?_⟩, ⟨n1 ?_, n1 ?_, n1 ?_⟩, ⟨n1 l1, n1 l2, n1 l3⟩, off⟩
    · exact Nat.lt_trans l1 (Nat.lt_trans l4 l5)
    · exact Nat.lt_trans l2 (Nat.lt_trans l4 l5)
    · exact Nat.lt_trans l3 (Nat.lt_trans l4 l5)
    · exact Nat.lt_trans l1 l4
    · exact Nat.lt_trans l2 l4
    · exact Nat.lt_trans l3 l4
  · have up : ∀ p ∈ nw, p ∈ (x, instObj 275 d) :: (d, tkD P t1 t2 t3 t4 (kd q) (wd q) tk tw pa) :: (pa, tupO #[.int 1 u1, .int ((i : Int) + 1) u2]) :: nw := fun p hp => .tail _ (.tail _ (.tail _ hp))
    refine ⟨up _ mc, fun p hp => up p (hsub p hp), ts ++ [x], (List.map_append (f := Value.ref)).symm ▸ rfl, by rw [List.length_append, hts]; rfl, fun j r hj hr => ?_⟩
    by_cases hji : j < i
    · obtain ⟨y, hy, ht⟩ := htok j r hji hr
      exact ⟨y, by rw [List.getElem?_append_left (by omega)]; exact hy, ht.mono up⟩
    · have : j = i := by omega
      subst this
      rw [e] at hr
      cases hr
      exact ⟨x, by rw [List.getElem?_append_right (by omega), hts, Nat.sub_self]; rfl, d, pa, t1, t2, t3, t4, tk, tw, u1, u2, .head _, .tail _ (.head _), .tail _ (.tail _ (.head _))⟩
theorem toks_of {P : Params} {c : Addr × Obj} {news nw : List (Addr × Obj)} {rs : List Int} {ys : List Value} {D : Addr} (h : AnsInv P c news rs rs.length ys nw) (hlen : rs.length ≤ 11) (hr : ∀ x ∈ rs, 0 ≤ x ∧ x ≤ 9) : ∃ ts, Toks P ((D, LCg.lst ys) :: nw) D ts rs := by
  obtain ⟨_, _, ts, rfl, hts, htok⟩ := h
  refine ⟨ts, ⟨_, .head _⟩, hts, hlen, hr, fun i q e => ?_⟩
  obtain ⟨x, hx, ht⟩ := htok i q (List.getElem?_eq_some_iff.mp e).1 e
  exact ⟨x, hx, ht.mono fun p hp => .tail _ hp⟩
theorem rd_front {h₀ h : Heap} {L : Addr} {a b c : Addr × Obj} {l : List (Addr × Obj)} (N : News h₀ L h (a :: b :: c :: l)) : News h₀ L h (b :: c :: a :: l) := fun p hp => N p (by
  rcases List.mem_cons.mp hp with h | hp
  · exact h ▸ .tail _ (.head _)
  · rcases List.mem_cons.mp hp with h | hp
    · exact h ▸ .tail _ (.tail _ (.head _))
    · rcases List.mem_cons.mp hp with h | hp
      · exact h ▸ .head _
      · exact .tail _ (.tail _ (.tail _ hp)))
theorem allLt_at {d : Addr} {l : List (Addr × Obj)} : AllLt d l → ∀ q ∈ l, q.1 ≠ d := by
  induction l with
  | nil => intro _ q hq; exact nomatch hq
  | cons p r ih =>
    intro h q hq
    rcases List.mem_cons.mp hq with e | hq
    · rw [e]; exact Nat.ne_of_lt h.1
    · exact ih h.2 q hq
/-- the pair that says how it went -/
def AnsObj : Except Nat Nat → Obj → Prop
  | .ok k, o => ∃ t, o = tupO #[.int (k : Int) t, .none]
  | .error q, o => ∃ t, o = tupO #[.none, .int (q : Int) t]
end Og91
end

/-! DueSrc -/
section
open PySem PySem.W PySem.Calls PySem.Spec PyProof.Rows Og91
set_option maxRecDepth 100000
set_option maxHeartbeats 8000000
namespace Og91
section
variable {prog : Program} {w : World} {A : Around} {E : Value → Shared → Prop} {s : Shared}
theorem getItem_tuple_zero {t sl : Addr} {items : Array Value} {u : Tok} {Q : Value → Shared → Prop} (ht : IsTup s.heap t items) (hs : s.heap.IsSliceOf sl (.int 0 u) .none .none)
    (h : Q (.ref t) s) (hsz : items.size ≤ sizeLine) : wpAny (model prog w) A (getItem (.ref t) (.ref sl)) Q E s := by
  obtain ⟨os, hos, hcs, hds⟩ := id hs
  have hTs : s.TypeIs (.ref sl) "slice" := ⟨os, hos, hcs⟩
  unfold getItem
  try with_reducible refine wpAny_holding ?_
  first | refine wpAny_bind (wpAny_pure ?_) | skip
  refine wpAny_bind (wpAny_sequenceKey ht.typeIs (by decide) ?_)
  refine wpAny_bind (wpAny_callSpecial?_slot (name := Str.ofString "__getitem__") ht.typeIs slot_tuple_getitem
    (wpAny_call_entry slot_tuple_getitem ht.typeIs entry_tuple_getitem ?_ (args_tuple_getitem _ _)))
  show wpAny _ _ (Builtin.Tuple.tupleItemsOf (.ref t) >>= _) _ _ s
  refine wpAny_bind (tupleItemsOf_ ht ?_)
  refine wpAny_bind (wpAny_typeOf hTs ?_)
  rw [if_pos (by decide)]
  refine wpAny_bind (sliceApplied_from (a := 0) hs (Nat.zero_le _) ?_)
  have hyes : ((((0 : Nat) : Int) == 0 && (1 : Int) == 1 && (items.size - 0) == items.size) = true) := by simp
  show wpAny _ _ (if (((0 : Nat) : Int) == 0 && (1 : Int) == 1 && (items.size - 0) == items.size) = true then _ else _) _ _ s
  rw [if_pos hyes]
  refine wpAny_bind (m := Builtin.Tuple.tupleIsExact _) ?_
  unfold Builtin.Tuple.tupleIsExact
  refine wpAny_bind (wpAny_typeOf ht.typeIs (wpAny_pure ?_))
  rw [if_pos (by decide)]
  refine wpAny_bind (wpAny_rule ?_)
  exact wpAny_pure ⟨_, rfl, wpAny_pure h⟩
/-- a slice from a place of a tuple: the tuple itself or a new one -/
theorem slice_tuple_any {h₀ : Heap} {L : Addr} {m : Str → Option Value} {news : List (Addr × Obj)} {value slice : PySem.Expr} {t : Addr} {items : Array Value} {a : Nat} {u : Tok} {Q : Value → Shared → Prop}
    (F : Fr h₀ L s.heap m) (N : News h₀ L s.heap news) (ht : IsTup h₀ t items) (ha : a ≤ items.size)
    (h : ∀ D h' news', Fr h₀ L h' m → News h₀ L h' news' → (∀ p ∈ news, p ∈ news') → (IsTup h₀ D (items.toList.drop a).toArray ∨ (D, { cls := .type "tuple", data := .seq (items.toList.drop a).toArray }) ∈ news') → Q (.ref D) { s with heap := h' })
    (hs : subscripted slice false (.ref t) (.ref s.heap.objs.size) = operate [.ref s.heap.objs.size, .ref t] (getItem (.ref t) (.ref s.heap.objs.size)))
    (hg : ∀ r, letTemporaryGo value (.ref t) r = pure ())
    (hsz : items.size ≤ sizeLine) :
    wpAny (model prog w) A (subscriptTail value slice (.ref t) (.ref s.heap.objs.size)) Q E { s with heap := s.heap.push { cls := .type "slice", data := .fields #[.int a u, .none, .none] } } := by
  by_cases h1 : 1 ≤ a
  · exact slice_tuple_from F N (ht.keeps F.keep) h1 ha (fun h' F' N' => h _ h' _ F' N' (fun p hp => .tail _ hp) (.inr (.head _))) hs hg hsz
  · have e0 : a = 0 := by omega
    subst e0
    have up : ∀ b o, s.heap.get? b = some o → (s.heap.push { cls := .type "slice", data := .fields #[.int (0 : Nat) u, .none, .none] }).get? b = some o := fun _ _ e => Heap.get?_push_of_some _ e
    have ht' : IsTup (s.heap.push { cls := .type "slice", data := .fields #[.int (0 : Nat) u, .none, .none] }) t items := (ht.keeps F.keep).keeps up
    refine subscriptTail_ops (s := { s with heap := s.heap.push { cls := .type "slice", data := .fields #[.int (0 : Nat) u, .none, .none] } }) ht'.typeIs slot_tuple_getitem.lookup
      (getItem_tuple_zero ht' (Heap.IsSliceOf.new ..) (h t _ news (F.push _) (N.grown up) (fun _ hp => hp) (.inl (by simpa using ht))) hsz) hs hg
end
section
open LCg
variable {prog : Program} {w : World} {A : Around} {E : Value → Shared → Prop} {s : Shared} {h₀ : Heap} {L : Addr} {m : Str → Option Value} {env : Env}
def TupAt (h₀ : Heap) (ax : Addr) (its : Array Value) (news : List (Addr × Obj)) : Prop := IsTup h₀ ax its ∨ ∃ o, (ax, o) ∈ news ∧ o.cls = .type "tuple" ∧ ∃ n, o.data = .seq its n
theorem TupAt.tup {h₀ h : Heap} {L ax : Addr} {its : Array Value} {news : List (Addr × Obj)} (x : TupAt h₀ ax its news) (k : ∀ b o, h₀.get? b = some o → h.get? b = some o) (N : News h₀ L h news) : IsTup h ax its := by
  rcases x with ⟨o, e, r⟩ | ⟨o, hm, r⟩
  · exact ⟨o, k _ _ e, r⟩
  · exact ⟨o, (N _ hm).1, r⟩
theorem tup_st {ax I : Addr} {its : Array Value} : ∀ i (h h' : Heap) (o : Obj) (nw : List (Addr × Obj)), (h.IsTupleIter I ax i ∧ h.IsTuple ax its) → h.get? I = some o → h'.get? I = some o → (∀ b o, h₀.get? b = some o → h'.get? b = some o) → News h₀ L h' nw → TupAt h₀ ax its nw → (h'.IsTupleIter I ax i ∧ h'.IsTuple ax its) :=
  fun i h h' o nw st e e' k N S => ⟨by obtain ⟨o', q, r⟩ := st.1; rw [e] at q; cases q; exact ⟨o, e', r⟩, S.tup k N⟩
def SrcT (prog : Program) (w : World) (A : Around) (h₀ : Heap) (L : Addr) (m : Str → Option Value) (env : Env) (elt : Expr) (x : Str) (scope : Scope) (cl : List (Str × Addr)) (Fin : Shared → List Value → List (Addr × Obj) → Prop) (xv : Value) (s₁ : Shared) : Prop :=
  ∃ ax its news, xv = .ref ax ∧ A.handled = none ∧ Fr h₀ L s₁.heap m ∧ News h₀ L s₁.heap news ∧ TupAt h₀ ax its news ∧ its.size ≤ sizeLine ∧
    ∀ s₂ : Shared, (∃ h, s₂ = { s₁ with heap := h }) → CompRest prog w A h₀ L m env elt x scope cl s₂ (TupAt h₀ ax its) (fun i v => its[i]? = some v) (Fin s₂) its.size 0 [] news
theorem assign_T {elt iter : Expr} {x y : Str} {px py : Pos} {scope : Scope} {cl : List (Str × Addr)} {pos spos : Pos} {Q : Flow → Shared → Prop} (F₀ : Fr h₀ L s.heap m) (hLe : env.locals = L)
    (hsw : swapsWith (.ListComp elt [⟨.Name x px, iter, [], 0⟩] scope pos) (some (.Name y py)) spos.line env = pure true)
    (hclos : closureFor scope env = pure cl) (hcell : ∀ z ∈ scope.names, z.2 ≠ .cell) (hkind : scope.kind = .function)
    (hnames : ∀ z ∈ scope.names, z.2 = .local → scope.names.lookup z.1 = some .local) (hx : scope.names.lookup x = some .local)
    (hy : env.kindOf y = some .local) (hp : (env.scope.kind == .class || (env.scope.kind == .module && env.locals != env.globals)) = false)
    (h : wpAny (model prog w) A (eval iter env) (fun xv s₁ => CompSrc prog w A h₀ L m env elt x scope cl (fun s₂ => FinA h₀ L m s₂ y Q) xv s₁ ∨ SrcT prog w A h₀ L m env elt x scope cl (fun s₂ => FinA h₀ L m s₂ y Q) xv s₁) E s)
    (hs : ∀ x, foldedSetIterable iter env x = pure x := by intro _; rfl) :
    wpAny (model prog w) A (exec (.Assign [.Name y py] (.ListComp elt [⟨.Name x px, iter, [], 0⟩] scope pos) spos) env) Q E s := by
  subst hLe
  rw [exec_Assign_Name_used _ _ _ _ hsw]
  refine wpAny_bind (wpAny_standAt (wpAny_bind ?_))
  show wpAny _ A (do let _ ← comprehension (.ListComp elt [⟨.Name x px, iter, [], 0⟩] scope pos) scope env _ (newList []) false (eval iter env) (some (assign (.Name y py) env))) _ _ s
  refine wpAny_bind (wpAny_mono (wpAny_comprehension_free (use := some (assign (.Name y py) env)) (Q := fun _ s' => Q .next s') rfl hs hclos hkind hnames
    (wpAny_mono h (fun xv s₁ h₁ => ?_) fun _ _ e => e)) (fun _ s' hq => wpAny_pure (wpAny_pure hq)) fun _ _ e => e)
  rcases h₁ with (⟨ax, its, news, rfl, hh, F, N, S, hsz, R⟩ | ⟨r, a, b, t, u, v, n, news, rfl, hh, F, N, hr, hsm, hn, hsz, R⟩) | ⟨ax, its, news, rfl, hh, F, N, S, hsz, R⟩
  · have hl := S.list F.keep N
    have hlt : ax < s₁.heap.objs.size := by obtain ⟨_, e, _⟩ := hl; exact Heap.lt_size e
    refine wpAny_pyIter_list hl ?_
    have up : ∀ b o, s₁.heap.get? b = some o → (s₁.heap.push { cls := .type "list_iterator", data := .fields #[.ref ax, .int 0 0] }).get? b = some o := fun b o e => Heap.get?_push_of_some _ e
    refine block_U (Walks.list hh s₁.heap.objs.size ax (Nat.ne_of_lt hlt) its) hsz (fun i h st => by obtain ⟨o, e, _⟩ := st.1; exact ⟨o, e⟩) list_st hcell hkind hx ⟨⟨_, Heap.get?_push_size _ rfl, rfl, rfl⟩, hl.push _⟩ (fun b hb => ?_)
      (F.keeps up) (N.grown up) (Nat.ne_of_lt F.ns.lt) (next_is_new F) (fun p hp => Nat.ne_of_lt (Heap.lt_size (N p hp).1)) S (R _ ⟨_, rfl⟩) ?_
    · show b < (s₁.heap.push _).objs.size
      rw [Heap.size_push]
      rcases List.mem_cons.mp hb with rfl | hb
      · exact Nat.lt_succ_self _
      · rw [List.mem_singleton.mp hb]; exact Nat.lt_succ_of_lt hlt
    · intro D C h' tk m' ys news' F' N' o1 hn hC₀ hD₀ hCL hDL hCD offC fin
      show wpAny _ A (assign (.Name y py) env (.ref D)) _ _ _
      refine wpAny_assign_Name (wpAny_storeName_local hy F'.ns (fun h₂ hn₂ hs₂ => ?_) hp)
      have hL₀ : h₀.get? env.locals = none := Heap.get?_none_of_le F'.above
      have F₂ : Fr h₀ env.locals h₂ (fun z => if z = y then some (.ref D) else m z) := ⟨hn₂, fun b o e => hs₂.extBut b o (fun q => by rw [q, hL₀] at e; cases e) (F'.keep b o e), F'.above⟩
      refine ⟨m', hn.sameBut hs₂ hCL, fun h'' hs'' => fin D h'' _ (F₂.change hs'' hCL hC₀) (fun p hp => ?_) o1⟩
      have z : h₂.get? p.1 = some p.2 := hs₂.extBut _ _ (N' p hp).2.1 (N' p hp).1
      refine ⟨hs''.extBut _ _ ?_ z, (N' p hp).2⟩
      rcases List.mem_cons.mp hp with rfl | hp
      · exact Ne.symm hCD
      · exact offC p hp
  · refine wpAny_pyIter_range hr hsm ?_
    refine block_U (range_walks hh a n) hsz (fun i h st => ⟨_, st⟩) range_st hcell hkind hx (by show IsRangeIter _ _ _ _ _; rw [hn]; simpa using Heap.get?_push_size _ rfl) (fun b hb => ?_)
      (F.keeps fun _ _ e => Heap.get?_push_of_some _ e) (N.grown fun _ _ e => Heap.get?_push_of_some _ e) (Nat.ne_of_lt F.ns.lt) (next_is_new F) (fun p hp => Nat.ne_of_lt (Heap.lt_size (N p hp).1)) trivial (R _ ⟨_, rfl⟩) ?_
    · rw [List.mem_singleton.mp hb]
      show s₁.heap.objs.size < (s₁.heap.push _).objs.size
      rw [Heap.size_push]; exact Nat.lt_succ_self _
    · intro D C h' tk m' ys news' F' N' o1 hn hC₀ hD₀ hCL hDL hCD offC fin
      show wpAny _ A (assign (.Name y py) env (.ref D)) _ _ _
      refine wpAny_assign_Name (wpAny_storeName_local hy F'.ns (fun h₂ hn₂ hs₂ => ?_) hp)
      have hL₀ : h₀.get? env.locals = none := Heap.get?_none_of_le F'.above
      have F₂ : Fr h₀ env.locals h₂ (fun z => if z = y then some (.ref D) else m z) := ⟨hn₂, fun b o e => hs₂.extBut b o (fun q => by rw [q, hL₀] at e; cases e) (F'.keep b o e), F'.above⟩
      refine ⟨m', hn.sameBut hs₂ hCL, fun h'' hs'' => fin D h'' _ (F₂.change hs'' hCL hC₀) (fun p hp => ?_) o1⟩
      have z : h₂.get? p.1 = some p.2 := hs₂.extBut _ _ (N' p hp).2.1 (N' p hp).1
      refine ⟨hs''.extBut _ _ ?_ z, (N' p hp).2⟩
      rcases List.mem_cons.mp hp with rfl | hp
      · exact Ne.symm hCD
      · exact offC p hp
  · have hl := S.tup F.keep N
    have hlt : ax < s₁.heap.objs.size := by obtain ⟨_, e, _⟩ := hl; exact Heap.lt_size e
    refine wpAny_pyIter_tuple hl ?_
    have up : ∀ b o, s₁.heap.get? b = some o → (s₁.heap.push { cls := .type "tuple_iterator", data := .fields #[.ref ax, .int 0 0] }).get? b = some o := fun b o e => Heap.get?_push_of_some _ e
    refine block_U (Walks.tuple hh s₁.heap.objs.size ax (Nat.ne_of_lt hlt) its) hsz (fun i h st => by obtain ⟨o, e, _⟩ := st.1; exact ⟨o, e⟩) tup_st hcell hkind hx ⟨⟨_, Heap.get?_push_size _ rfl, rfl, rfl⟩, hl.keeps up⟩ (fun b hb => ?_)
      (F.keeps up) (N.grown up) (Nat.ne_of_lt F.ns.lt) (next_is_new F) (fun p hp => Nat.ne_of_lt (Heap.lt_size (N p hp).1)) S (R _ ⟨_, rfl⟩) ?_
    · show b < (s₁.heap.push _).objs.size
      rw [Heap.size_push]
      rcases List.mem_cons.mp hb with rfl | hb
      · exact Nat.lt_succ_self _
      · rw [List.mem_singleton.mp hb]; exact Nat.lt_succ_of_lt hlt
    · intro D C h' tk m' ys news' F' N' o1 hn hC₀ hD₀ hCL hDL hCD offC fin
      show wpAny _ A (assign (.Name y py) env (.ref D)) _ _ _
      refine wpAny_assign_Name (wpAny_storeName_local hy F'.ns (fun h₂ hn₂ hs₂ => ?_) hp)
      have hL₀ : h₀.get? env.locals = none := Heap.get?_none_of_le F'.above
      have F₂ : Fr h₀ env.locals h₂ (fun z => if z = y then some (.ref D) else m z) := ⟨hn₂, fun b o e => hs₂.extBut b o (fun q => by rw [q, hL₀] at e; cases e) (F'.keep b o e), F'.above⟩
      refine ⟨m', hn.sameBut hs₂ hCL, fun h'' hs'' => fin D h'' _ (F₂.change hs'' hCL hC₀) (fun p hp => ?_) o1⟩
      have z : h₂.get? p.1 = some p.2 := hs₂.extBut _ _ (N' p hp).2.1 (N' p hp).1
      refine ⟨hs''.extBut _ _ ?_ z, (N' p hp).2⟩
      rcases List.mem_cons.mp hp with rfl | hp
      · exact Ne.symm hCD
      · exact offC p hp
end
end Og91
end

section
open PySem PySem.W PySem.Calls PyProof.Rows
local macro_rules | `(tactic| k_room) => `(tactic| ktr_room)
local macro_rules | `(tactic| ktr_enter) => `(tactic| (refine' code_def ?k1 ?k2 ?k3 ?k4 ?k5 ?kA ?kF ?kK ?k6 ?k7 ?k8 ?k9 ?kB ?_ ?c2 ?c3 ?c4 ?c5; (case kA => exact rfl); (case kF => exact rfl); (case kK => first | exact rfl | assumption); (case k1 => k_asm); (case k2 => k_asm); (case k3 => k_asm); (case k4 => k_asm); (case k5 => k_asm); (case k6 => k_is); (case k7 => k_is); (case k8 => ktr_room); (case k9 => first | exact BindsTo.of_eq rfl | exact binds_K (by k_in) rfl (by k_is) rfl rfl rfl); (case c5 => decide); (case kB => exact locs rfl); (case c2 => exact rfl); (case c3 => exact rfl); (case c4 => exact rfl); k_whole; intro g' L' h' FG' F' N' B' X' T'; (try dsimp only); (try k_fold)))
local macro_rules | `(tactic| k_mem) => `(tactic| (change (_ : Addr × Obj) ∈ (_ : List (Addr × Obj)); ktr_member))

/-! CPeek -/
section
open Og91
set_option maxRecDepth 100000
set_option maxHeartbeats 8000000
namespace Og91
theorem at_sum {k j : Nat} {z : Int} (h : z = (j : Int)) : (k : Int) + z = ((k + j : Nat) : Int) := by omega
section
variable {prog : Program} {w : World} {A : Around} {E : Value → Shared → Prop} {s : Shared} {h₀ : Heap} {L : Addr} {news : List (Addr × Obj)} {tl : Addr} {ts : List Addr} {rs : List Int} {nl : Nat} {Q : Value → Shared → Prop}
theorem len_toks (N : News h₀ L s.heap news) (hm : (tl, W.listOf (ts.map Value.ref).toArray nl) ∈ news) (TK : Toks w.params news tl ts rs) (h : Q (.int (rs.length : Nat) (s.toks + 1)) { s with toks := s.toks + 1 + 1 }) :
    wpAny (model prog w) A (call (.builtin "len") [.ref tl]) Q E s := by
  have e : (ts.map Value.ref).toArray.size = rs.length := by simp [TK.len]
  exact len_list (PySem.IsL.isList (n := nl) (N _ hm).1) (by have := TK.small; omega) (by rw [e]; exact h)
theorem item_toks {value slice : PySem.Expr} {i : Nat} {z : Int} {u : Tok} (N : News h₀ L s.heap news) (hm : (tl, W.listOf (ts.map Value.ref).toArray nl) ∈ news) (TK : Toks w.params news tl ts rs) (hi : z = (i : Int)) (hz : z < (rs.length : Nat))
    (h : ∀ x r, rs[i]? = some r → TokAt w.params news x r i → Q (.ref x) s)
    (hs : subscripted slice false (.ref tl) (.int z u) = operate [.ref tl, .int z u] (getItem (.ref tl) (.int z u)) := by with_unfolding_all rfl) :
    wpAny (model prog w) A (subscriptTail value slice (.ref tl) (.int z u)) Q E s := by
  subst hi
  have hlt : i < rs.length := by omega
  obtain ⟨x, hx, ht⟩ := TK.tok i rs[i] (by simp [hlt])
  have hl := PySem.IsL.isList (n := nl) (N _ hm).1
  have hb : ((i : Nat) : Int) < 2 ^ 63 := by have := TK.small; omega
  exact tail_any hl.typeIs slot_list_getitem.lookup (wpAny_getItem_list (k := (i : Int)) (x := .ref x) hl (Int.natCast_nonneg i) hb (by simp [hx]) (h x rs[i] (by simp [hlt]) ht)) hs
end
local macro_rules | `(tactic| walk_at "call builtin:len") => `(tactic| (k_here; (with_reducible show wpAny _ _ (call (Value.builtin "len") [Value.ref _]) _ _ _); k_dflt (refine' len_toks ?N ?m ?t ?_; (case N => k_asm); (case m => k_mem); (case t => with_reducible assumption); k_whole)))
local macro_rules | `(tactic| walk_at "subscriptTail") => `(tactic| (k_here; (with_reducible show wpAny _ _ (subscriptTail _ _ (Value.ref _) (Value.int _ _)) _ _ _); k_dflt (refine' item_toks ?N ?m ?t ?i ?z ?_ ?s; (case N => k_asm); (case m => k_mem); (case t => with_reducible assumption); (case i => exact at_sum (by assumption)); (case z => omega); (case s => with_unfolding_all rfl); k_whole); intro _ _ _ _))
section
variable {w : World} {p : Program} {loose : List Str} {mean : ExcName → Option Value} {mg mb : Str → Option Value}
theorem peek_ok {rd tl : Addr} {k : Nat} {ts : List Addr} {rs : List Int} {j : Nat} {z : Int} {tj : Tok} (hz : z = (j : Int)) (hj : j ≤ 4) (hk : k ≤ 20) :
    Gives PySem.Challenge.rw_og0091_01.row.prog w p loose mean mg mb 10 (fun news => Toks w.params news tl ts rs ∧ RdIn w.params news rd tl k) 99 [.ref rd, .int z tj]
      (fun news v => (∃ r x, rs[k + j]? = some r ∧ v = .ref x ∧ TokAt w.params news x r (k + j)) ∨ (rs[k + j]? = none ∧ v = .none)) := by
  unfold Gives
  intro dp un gd cn cs a ccd cl outer A₀ base h₀ L m news s Q E B F X N T hks hpre hd hu ret
  obtain ⟨TK, dd, nd, t1, t2, t3, tk, m1, m2⟩ := hpre
  obtain ⟨nl, m3⟩ := TK.list
  revert X
  w_top off
  k_fill
  intro X
  refine wpAny_call ?_
  k_dflt ktr_enter
  k_steps
  · refine ret _ _ _ (by assumption) (by assumption) ?_
    rename_i _ _ _ e9 t9 _ _ _ _
    exact .inl ⟨_, _, e9, rfl, t9⟩
  · refine ret _ _ _ (by assumption) (by assumption) ?_
    rename_i c9 _ _ _ _
    exact .inr ⟨List.getElem?_eq_none (by omega), rfl⟩
end
end Og91
end

/-! CKind -/
section
open Og91
set_option maxRecDepth 100000
set_option maxHeartbeats 8000000
namespace Og91
section
variable {prog : Program} {w : World} {p : Program} {loose : List Str} {mean : ExcName → Option Value} {mg mb : Str → Option Value} {room : Nat} {Pre : List (Addr × Obj) → Prop} {f : Addr} {args : List Value} {Out : List (Addr × Obj) → Value → Prop}
theorem gives_use {dp un : Nat} {gd : Option (List Code)} {cn : Str} {cs : Scope} {a : Addr} {ccd : Value} {cl : List (Str × Addr)} {outer : List Env} {A₀ : Around} {base h₀ : Heap} {L : Addr} {m : Str → Option Value} {news : List (Addr × Obj)} {s : Shared}
    {Q E : Value → Shared → Prop} (C : Gives prog w p loose mean mg mb room Pre f args Out) (B : Below A₀ base outer h₀) (F : Fr h₀ L s.heap m) (X : (tp.heap_1 w.params).In h₀) (N : News h₀ L s.heap news) (T : Top p loose mean mg mb h₀) (hk : cs.kind = .function) (pre : Pre news)
    (hd : dp + room < recursionLimit) (hu : un + 8 * room < cLine) (ret : ∀ v h' tk', Fr h₀ L h' m → News h₀ L h' news → Out news v → Q v { s with heap := h', toks := tk' }) :
    wpAny (model prog w) (ktrTop dp un gd cn cs L a ccd cl outer) (call (.ref f) args) Q E s := C _ _ _ _ _ _ _ _ _ _ _ _ _ _ _ _ _ _ B F X N T hk pre hd hu ret
end
local macro_rules | `(tactic| walk_at "call ref") => `(tactic| (k_here; k_dflt (refine' gives_use (peek_ok (rs := ?rs) ?hz ?hj ?hk) ?B ?F ?X ?N ?T ?K ?P ?hd ?hu ?_; (case B => k_asm); (case F => k_asm); (case X => k_asm); (case N => k_asm); (case T => k_asm); (case K => first | exact rfl | assumption); (case P => exact ⟨by with_reducible assumption, by with_reducible assumption⟩); (case hz => first | assumption | exact rfl); (case hj => first | assumption | decide); (case hk => first | assumption | omega); (case hd => ktr_room); (case hu => ktr_units); k_whole); intro v' h' tk' F' N' o'; (try k_sweep); (k_dflt ((rcases o' with ⟨r9, x9, q9, e9, ⟨d9, pa9, t91, t92, t93, t94, tk9, tw9, u91, u92, m91, m92, m93⟩⟩ | ⟨q9, e9⟩) <;> subst e9))))
section
variable {w : World} {p : Program} {loose : List Str} {mean : ExcName → Option Value} {mg mb : Str → Option Value}
theorem is_kind_ok {rd tl : Addr} {k : Nat} {ts : List Addr} {rs : List Int} {j : Nat} {z : Int} {kk : Str} {t1 tj : Tok} (hz : z = (j : Int)) (hj : j ≤ 4) (hk : k ≤ 20) :
    Gives PySem.Challenge.rw_og0091_01.row.prog w p loose mean mg mb 15 (fun news => Toks w.params news tl ts rs ∧ RdIn w.params news rd tl k) 128 [.ref rd, .str kk t1, .int z tj]
      (fun _ v => v = .bool (kindIs rs (k + j) kk)) := by
  unfold Gives
  intro dp un gd cn cs a ccd cl outer A₀ base h₀ L m news s Q E B F X N T hks hpre hd hu ret
  obtain ⟨TK, RD⟩ := hpre
  obtain ⟨dd, nd, t1, t2, t3, tk, m1, m2⟩ := id RD
  revert X
  w_top off
  k_fill
  intro X
  refine wpAny_call ?_
  k_dflt ktr_enter
  k_steps
  all_goals (refine ret _ _ _ (by assumption) (by assumption) ?_; show _ = _; unfold kindIs; first | (rename rs[_]? = some _ => q; rw [q]) | (rename rs[_]? = none => q; rw [q]))
end
end Og91
end

/-! CRes -/
section
open Og91
set_option maxRecDepth 100000
set_option maxHeartbeats 8000000
namespace Og91
def isName (r : Int) : Bool := r == 2 || r == 4
theorem word_five {r : Int} (h0 : 0 ≤ r) (h9 : r ≤ 9) (h : (kd r == "word") = true) : r = 0 ∨ r = 1 ∨ r = 2 ∨ r = 4 ∨ r = 7 := by
  rcases ten h0 h9 with rfl | rfl | rfl | rfl | rfl | rfl | rfl | rfl | rfl | rfl <;> first | omega | exact absurd h (by decide +kernel)
def preL : List Nat → List Nat → Bool
  | [], _ => true
  | _ :: _, [] => false
  | a :: p, b :: l => Nat.beq a b && preL p l
def hasL (p : List Nat) : List Nat → Bool
  | [] => preL p []
  | b :: l => preL p (b :: l) || hasL p l
theorem preL_iff : ∀ {p l : List Nat}, preL p l = true ↔ p.length ≤ l.length ∧ l.take p.length = p
  | [], l => by simp [preL]
  | a :: p, [] => by simp [preL]
  | a :: p, b :: l => by
    have ih := @preL_iff p l
    simp only [preL, Bool.and_eq_true, ih, List.length_cons, List.take_succ_cons, List.cons.injEq, Nat.add_le_add_iff_right, Nat.beq_eq]
    constructor
    · rintro ⟨h1, h2, h3⟩; exact ⟨h2, h1.symm, h3⟩
    · rintro ⟨h1, h2, h3⟩; exact ⟨h2.symm, h1, h3⟩
theorem hasL_iff {p : List Nat} : ∀ {l : List Nat}, hasL p l = true ↔ ∃ i, i + p.length ≤ l.length ∧ (l.drop i).take p.length = p
  | [] => by
    rw [hasL, preL_iff]
    constructor
    · rintro ⟨h1, h2⟩; exact ⟨0, by simpa using h1, by simpa using h2⟩
    · rintro ⟨i, h1, h2⟩
      have h3 : i + p.length ≤ 0 := h1
      have : p.length = 0 := by omega
      exact ⟨by rw [this]; exact Nat.zero_le _, by simpa using h2⟩
  | b :: l => by
    rw [hasL, Bool.or_eq_true, preL_iff, @hasL_iff p l]
    constructor
    · rintro (⟨h1, h2⟩ | ⟨i, h1, h2⟩)
      · exact ⟨0, by simpa using h1, by simpa using h2⟩
      · exact ⟨i + 1, by simp only [List.length_cons]; omega, by simpa using h2⟩
    · rintro ⟨i, h1, h2⟩
      cases i with
      | zero => exact .inl ⟨by simpa using h1, by simpa using h2⟩
      | succ i => exact .inr ⟨i, by simp only [List.length_cons] at h1; omega, by simpa using h2⟩
theorem found_hasL (x y : Str) : (!(Builtin.Str.occurrences x y 0 x.length 1).isEmpty) = hasL y.cps.toList x.cps.toList := by
  rw [Bool.eq_iff_iff, StrLaws.found_iff, hasL_iff]
  have e : ∀ i, (i + y.length ≤ x.length ∧ Builtin.Str.subAt x y i = true) ↔ (i + y.cps.toList.length ≤ x.cps.toList.length ∧ (x.cps.toList.drop i).take y.cps.toList.length = y.cps.toList) := by
    intro i
    refine and_congr ?_ ?_
    · rw [Array.length_toList, Array.length_toList]; rfl
    · unfold Builtin.Str.subAt
      rw [beq_iff_eq, ← Array.toList_inj, Array.toList_extract, List.extract_eq_take_drop, Array.length_toList]
      rw [show i + y.length - i = y.cps.size from by rw [show y.length = y.cps.size from rfl]; omega]
  exact ⟨fun ⟨i, h⟩ => ⟨i, (e i).mp h⟩, fun ⟨i, h⟩ => ⟨i, (e i).mpr h⟩⟩
def resHas (r : Int) : Bool := hasL (" " ++ wd r ++ " " : Str).cps.toList resStr.cps.toList
theorem resHas0 : resHas 0 = true := by k_qdec
theorem resHas1 : resHas 1 = true := by k_qdec
theorem resHas7 : resHas 7 = true := by k_qdec
theorem resHas2 : (!resHas 2) = true := by k_qdec
theorem resHas4 : (!resHas 4) = true := by k_qdec
section
variable {w : World} {p : Program} {loose : List Str} {mean : ExcName → Option Value} {mg mb : Str → Option Value}
theorem is_reserved_ok {r : Int} {tj : Tok} (h0 : 0 ≤ r) (h9 : r ≤ 9) (hw : (kd r == "word") = true) :
    Gives PySem.Challenge.rw_og0091_01.row.prog w p loose mean mg mb 5 (fun news => True) 76 [.str (wd r) tj]
      (fun _ v => v = .bool (!isName r)) := by
  unfold Gives
  intro dp un gd cn cs a ccd cl outer A₀ base h₀ L m news s Q E B F X N T hks hpre hd hu ret
  revert X
  w_top off
  k_fill
  intro X
  have wl : (wd r).length ≤ 8 := by rcases word_five h0 h9 hw with rfl | rfl | rfl | rfl | rfl <;> decide +kernel
  refine wpAny_call ?_
  k_dflt ktr_enter
  k_steps
  refine ret _ _ _ (by assumption) (by assumption) ?_
  show Value.bool (!(Builtin.Str.occurrences resStr (" " ++ wd r ++ " ") 0 resStr.length 1).isEmpty) = _
  rw [found_hasL]
  show Value.bool (resHas r) = _
  rcases word_five h0 h9 hw with rfl | rfl | rfl | rfl | rfl
  · rw [resHas0]; rfl
  · rw [resHas1]; rfl
  · rw [Bool.not_eq_true' _ |>.mp resHas2]; rfl
  · rw [Bool.not_eq_true' _ |>.mp resHas4]; rfl
  · rw [resHas7]; rfl
end
end Og91
end

/-! CWord -/
section
open Og91
set_option maxRecDepth 100000
set_option maxHeartbeats 8000000
namespace Og91
theorem Gives.mono {prog : Program} {w : World} {p : Program} {loose : List Str} {mean : ExcName → Option Value} {mg mb : Str → Option Value} {room : Nat} {Pre : List (Addr × Obj) → Prop} {f : Addr} {args : List Value} {Out Out' : List (Addr × Obj) → Value → Prop}
    (C : Gives prog w p loose mean mg mb room Pre f args Out) (h : ∀ news v, Pre news → Out news v → Out' news v) : Gives prog w p loose mean mg mb room Pre f args Out' := by
  unfold Gives at *
  intro dp un gd cn cs a ccd cl outer A₀ base h₀ L m news s Q E B F X N T hks hpre hd hu ret
  exact C dp un gd cn cs a ccd cl outer A₀ base h₀ L m news s Q E B F X N T hks hpre hd hu fun v h' tk' F' N' o => ret v h' tk' F' N' (h _ _ hpre o)
section
variable {w : World} {p : Program} {loose : List Str} {mean : ExcName → Option Value} {mg mb : Str → Option Value}
theorem peek_kind {rd tl : Addr} {k : Nat} {ts : List Addr} {rs : List Int} {j : Nat} {z : Int} {tj : Tok} {kk : Str} (hz : z = (j : Int)) (hj : j ≤ 4) (hk : k ≤ 20) (hw : kindIs rs (k + j) kk = true) :
    Gives PySem.Challenge.rw_og0091_01.row.prog w p loose mean mg mb 10 (fun news => Toks w.params news tl ts rs ∧ RdIn w.params news rd tl k) 99 [.ref rd, .int z tj]
      (fun news v => ∃ r x, rs[k + j]? = some r ∧ v = .ref x ∧ TokAt w.params news x r (k + j)) :=
  (peek_ok hz hj hk).mono fun news v _ h => h.elim id fun ⟨q, _⟩ => by unfold kindIs at hw; rw [q] at hw; cases hw
end
theorem worth_ne {rs : List Int} {i : Nat} {r : Int} {w v : Str} (e : w = v) (q : rs[i]? = some r) (h : (wd r != w) = true) : worthIs rs i v = false := by
  subst e; unfold worthIs; rw [q]; simpa using h
theorem worth_eq {rs : List Int} {i : Nat} {r : Int} {w v : Str} (e : w = v) (q : rs[i]? = some r) (h : (wd r != w) = false) : worthIs rs i v = true := by
  subst e; unfold worthIs; rw [q]; simpa using h
theorem str_END : (Str.mk #[69, 78, 68] : Str) = "END" := by decide +kernel
theorem str_PROGRAM : (Str.mk #[80, 82, 79, 71, 82, 65, 77] : Str) = "PROGRAM" := by decide +kernel
def isEnd (rs : List Int) (k : Nat) : Bool := kindIs rs k "word" && worthIs rs k "END" && (kindIs rs (k + 1) "word" && worthIs rs (k + 1) "PROGRAM")
theorem end_1 {rs : List Int} {k : Nat} (a : kindIs rs (k + 0) "word" = false) : Value.bool false = .bool (isEnd rs k) := by rw [Nat.add_zero] at a; simp [isEnd, a]
theorem end_2 {rs : List Int} {k : Nat} (a : worthIs rs (k + 0) "END" = false) : Value.bool false = .bool (isEnd rs k) := by rw [Nat.add_zero] at a; simp [isEnd, a]
theorem end_3 {rs : List Int} {k : Nat} (a : kindIs rs (k + 1) "word" = false) : Value.bool false = .bool (isEnd rs k) := by simp [isEnd, a]
theorem end_4 {rs : List Int} {k : Nat} (a : worthIs rs (k + 1) "PROGRAM" = false) : Value.bool false = .bool (isEnd rs k) := by simp [isEnd, a]
theorem end_5 {rs : List Int} {k : Nat} (a : kindIs rs (k + 0) "word" = true) (b : worthIs rs (k + 0) "END" = true) (c : kindIs rs (k + 1) "word" = true) (d : worthIs rs (k + 1) "PROGRAM" = true) : Value.bool true = .bool (isEnd rs k) := by
  rw [Nat.add_zero] at a b; simp [isEnd, a, b, c, d]
local macro_rules | `(tactic| walk_at "call ref") => `(tactic| (k_here; k_dflt (refine' gives_use (peek_ok (rs := ?rs) ?hz ?hj ?hk) ?B ?F ?X ?N ?T ?K ?P ?hd ?hu ?_; (case B => k_asm); (case F => k_asm); (case X => k_asm); (case N => k_asm); (case T => k_asm); (case K => first | exact rfl | assumption); (case P => exact ⟨by first | with_reducible assumption | exact Toks.mono (by with_reducible assumption) (by first | exact fun _ h9 => h9 | exact fun _ h9 => .tail _ h9 | exact fun _ h9 => .tail _ (.tail _ h9) | exact fun _ h9 => .tail _ (.tail _ (.tail _ h9)) | exact fun _ h9 => .tail _ (.tail _ (.tail _ (.tail _ h9))) | exact fun _ h9 => .tail _ (.tail _ (.tail _ (.tail _ (.tail _ h9))))), by first | with_reducible assumption | exact ⟨_, _, _, _, _, _, by k_mem, by k_mem⟩⟩); (case hz => first | assumption | exact (rfl : (0 : Int) = ((0 : Nat) : Int)) | exact (rfl : (1 : Int) = ((1 : Nat) : Int)) | exact (rfl : ((0 : Int) + 1) = ((1 : Nat) : Int))); (case hj => first | assumption | decide); (case hk => first | assumption | omega); (case hd => ktr_room); (case hu => ktr_units); k_whole); intro v' h' tk' F' N' o'; (try k_sweep); (k_dflt ((rcases o' with ⟨r9, x9, q9, e9, ⟨d9, pa9, t91, t92, t93, t94, tk9, tw9, u91, u92, m91, m92, m93⟩⟩ | ⟨q9, e9⟩) <;> subst e9))))
local macro_rules | `(tactic| walk_at "call ref") => `(tactic| (k_here; k_dflt (refine' gives_use (peek_kind (rs := ?rs) ?hz ?hj ?hk ?hw) ?B ?F ?X ?N ?T ?K ?P ?hd ?hu ?_; (case B => k_asm); (case F => k_asm); (case X => k_asm); (case N => k_asm); (case T => k_asm); (case K => first | exact rfl | assumption); (case P => exact ⟨by first | with_reducible assumption | exact Toks.mono (by with_reducible assumption) (by first | exact fun _ h9 => h9 | exact fun _ h9 => .tail _ h9 | exact fun _ h9 => .tail _ (.tail _ h9) | exact fun _ h9 => .tail _ (.tail _ (.tail _ h9)) | exact fun _ h9 => .tail _ (.tail _ (.tail _ (.tail _ h9))) | exact fun _ h9 => .tail _ (.tail _ (.tail _ (.tail _ (.tail _ h9))))), by first | with_reducible assumption | exact ⟨_, _, _, _, _, _, by k_mem, by k_mem⟩⟩); (case hz => first | assumption | exact (rfl : (0 : Int) = ((0 : Nat) : Int)) | exact (rfl : (1 : Int) = ((1 : Nat) : Int)) | exact (rfl : ((0 : Int) + 1) = ((1 : Nat) : Int))); (case hj => first | assumption | decide); (case hk => first | assumption | omega); (case hw => assumption); (case hd => ktr_room); (case hu => ktr_units); k_whole); intro v' h' tk' F' N' o'; (try k_sweep); (k_dflt ((rcases o' with ⟨r9, x9, q9, e9, ⟨d9, pa9, t91, t92, t93, t94, tk9, tw9, u91, u92, m91, m92, m93⟩⟩) <;> subst e9))))
local macro_rules | `(tactic| walk_at "call ref") => `(tactic| (k_here; k_dflt (refine' gives_use (is_kind_ok (rs := ?rs) ?hz ?hj ?hk) ?B ?F ?X ?N ?T ?K ?P ?hd ?hu ?_; (case B => k_asm); (case F => k_asm); (case X => k_asm); (case N => k_asm); (case T => k_asm); (case K => first | exact rfl | assumption); (case P => exact ⟨by first | with_reducible assumption | exact Toks.mono (by with_reducible assumption) (by first | exact fun _ h9 => h9 | exact fun _ h9 => .tail _ h9 | exact fun _ h9 => .tail _ (.tail _ h9) | exact fun _ h9 => .tail _ (.tail _ (.tail _ h9)) | exact fun _ h9 => .tail _ (.tail _ (.tail _ (.tail _ h9))) | exact fun _ h9 => .tail _ (.tail _ (.tail _ (.tail _ (.tail _ h9))))), by first | with_reducible assumption | exact ⟨_, _, _, _, _, _, by k_mem, by k_mem⟩⟩); (case hz => first | assumption | exact (rfl : (0 : Int) = ((0 : Nat) : Int)) | exact (rfl : (1 : Int) = ((1 : Nat) : Int)) | exact (rfl : ((0 : Int) + 1) = ((1 : Nat) : Int))); (case hj => first | assumption | decide); (case hk => first | assumption | omega); (case hd => ktr_room); (case hu => ktr_units); k_whole); intro v' h' tk' F' N' o'; (try k_sweep); (k_dflt (subst o'))))
local macro_rules | `(tactic| walk_at "UnrEnd") => `(tactic| (refine UnrEnd.intro (by assumption) (by assumption) _ (fun _ h9 => h9) (fun q9 hq9 => Nat.ne_of_lt ((by assumption : ∀ p ∈ _, _ < _) q9 hq9)) ⟨.head _, ?_⟩))
section
variable {w : World} {p : Program} {loose : List Str} {mean : ExcName → Option Value} {mg mb : Str → Option Value}
theorem is_word_ok {rd tl : Addr} {k : Nat} {ts : List Addr} {rs : List Int} {tj : Tok} (hk : k ≤ 20) :
    Gives PySem.Challenge.rw_og0091_01.row.prog w p loose mean mg mb 20 (fun news => Toks w.params news tl ts rs ∧ RdIn w.params news rd tl k) 135 [.ref rd, .str "END PROGRAM" tj]
      (fun _ v => v = .bool (isEnd rs k)) := by
  unfold Gives
  intro dp un gd cn cs a ccd cl outer A₀ base h₀ L m news s Q E B F X N T hks hpre hd hu ret
  obtain ⟨TK, RD⟩ := hpre
  obtain ⟨dd, nd, t1, t2, t3, tk, m1, m2⟩ := id RD
  revert X
  w_top off
  k_fill
  intro X
  refine wpAny_call ?_
  k_dflt ktr_enter
  iterate 15 (first | (k_unfold; (try dsimp only)) | (k_end; kc_close) | walk1 | (dsimp only; walk1) | (leave1; (try dsimp only)))
  k_dflt (refine iter_listUnr (by rfl) (by k_asm) (by k_asm) (.head _) rfl rfl ?_)
  intro I9 l9
  k_steps
  all_goals (refine ret _ _ _ (by assumption) (fun q hq => (by assumption : News _ _ _ _) q (by first | exact .tail _ hq | exact .tail _ (.tail _ hq))) ?_; show _ = _; first
    | exact end_1 (by assumption) | exact end_3 (by assumption)
    | exact end_2 (worth_ne str_END (by assumption) (by assumption)) | exact end_4 (worth_ne str_PROGRAM (by assumption) (by assumption))
    | exact end_5 (by assumption) (worth_eq str_END (by assumption) (by assumption)) (by assumption) (worth_eq str_PROGRAM (by assumption) (by assumption)))
end
end Og91
end

/-! Exc1 -/
section
open Og91
open Sem (wp)
open PySem.Builtin.ObjectAttr
set_option maxRecDepth 100000
set_option maxHeartbeats 4000000
namespace Og91
abbrev gfMro : List Value := [.ref 54, .type "Exception", .type "BaseException", .type "object"]
/-- the class of the faults -/
theorem gf_cls {P : Params} {h : Heap} (X : (tp.heap_1 P).In h) : h.get? 67 = some (excClassObj "GrammarFault" "GrammarFault" 67 66 [.ref 54] gfMro true [] [] false none none (some (.ref 58)) none (some (.str "GrammarFault" 247)) (some (.str "GrammarFault" 255)) (some (.bool true)) "Exception.__new__") :=
  X 67 _ (by kernel_rfl)
theorem fn_of {K : Frag} {h : Heap} {a : Addr} (X : K.In h) (e : (K.lookup a).elim false (fun o => o.cls == .type "function") = true) : ∃ o, h.get? a = some o ∧ o.cls = .type "function" := by
  cases q : K.lookup a with
  | none => rw [q] at e; cases e
  | some o => rw [q] at e; exact ⟨o, X a o q, eq_of_beq e⟩
abbrev gfO (t : Addr) : Obj := { cls := .ref 67, data := .fields #[.ref t, .none, .none, .none, .bool false, .none] }
theorem gf_has {T : String} {b : Bool} (h : gfMro.contains (.type T) = b) : (Value.ref 67 :: gfMro).contains (.type T) = b := by rw [List.contains_cons, h]; rfl
section
variable {prog : Program} {w : World} {A : Around} {E : Value → Shared → Prop} {s : Shared}
theorem gf_check_init {P : Params} {M : Model} {e : Addr} {oe : Obj} {rest : List Value} {Q : Unit → Shared → Prop} (X : (tp.heap_1 P).In s.heap) (he : s.heap.get? e = some oe) (hcls : oe.cls = .ref 67) (hq : Q () s) :
    wpAny M A (checkBuiltinCall "Exception.__init__" ⟨.ref e :: rest, []⟩) Q E s := by
  obtain ⟨h, g, d, t, os⟩ := s
  have F := PySem.F.excBase_Exception
  have hC := gf_cls X
  have hcB : (Value.ref 67 :: gfMro).contains (.type "Exception") = true := gf_has (by decide +kernel)
  have hshort := F.noStar
  simp only [checkBuiltinCall, F.initKind, F.initSplit, F.initRow]
  repeat (first | (with_reducible refine wpAny_loadPart_at he ?_; rw [hcls]) | with_reducible refine wpAny_loadPart_at hC ?_ | (with_reducible refine wpAny_isSubtype_exc hC ?_; rw [hcB]) | wp_step)
  refine wpAny_onRaise ?_
  rw [show ∀ (a b : String) (n : Nat), Bind.check ⟨.positional, "*", "Exception", .self, [⟨"args", .varPos, false⟩]⟩ a b n (List.map (fun x => x.fst) ({ pos := Value.ref e :: rest } : Args).kw) = pure () from
    fun a b n => check_star_args _ _ _ _ _ _]
  exact wpAny_pure hq
theorem gf_exc_init {P : Params} {e t0 : Addr} {wv : Value} {Q : Value → Shared → Prop} (X : (tp.heap_1 P).In s.heap) (he : s.heap.get? e = some (gfO t0))
    (hq : Q .none { s with heap := (s.heap.push (tupO #[wv])).update e (Obj.mapFields fun x => x.setIfInBounds 0 (Value.ref s.heap.objs.size)) }) :
    wpAny (model prog w) A (call (.builtin "Exception.__init__") [.ref e, wv]) Q E s := by
  have F := PySem.F.excBase_Exception
  refine wpAny_call (codeAny_call_builtin F.init.plain F.initEntry (gf_check_init X he rfl ?_))
  obtain ⟨h, g, d, t, os⟩ := s
  wp_walk
  exact hq
variable {h₀ : Heap} {L : Addr} {m : Str → Option Value} {news : List (Addr × Obj)}
theorem exc_init_N {P : Params} {e t0 : Addr} {wv : Value} {Q : Value → Shared → Prop} (F : Fr h₀ L s.heap m) (X : (tp.heap_1 P).In h₀) (N : News h₀ L s.heap ((e, gfO t0) :: news)) (off : ∀ p ∈ news, p.1 ≠ e)
    (hq : ∀ t1 h', Fr h₀ L h' m → News h₀ L h' ((t1, tupO #[wv]) :: (e, gfO t1) :: news) → (∀ p ∈ (e, gfO t1) :: news, p.1 < t1) → Q .none { s with heap := h' }) :
    wpAny (model prog w) A (call (.builtin "Exception.__init__") [.ref e, wv]) Q E s := by
  refine gf_exc_init (X.keeps F.keep) (N _ (.head _)).1 ?_
  have N1 : News h₀ L (s.heap.push (tupO #[wv])) ((s.heap.objs.size, tupO #[wv]) :: (e, gfO t0) :: news) := news_pushed F N (fun b o h => Heap.get?_push_of_some _ h) (Heap.get?_push_size _ rfl) rfl
  have lt : ∀ p ∈ (e, gfO t0) :: news, p.1 < s.heap.objs.size := fun p hp => Heap.lt_size (N p hp).1
  obtain ⟨F2, N2⟩ := news_upd (f := Obj.mapFields fun x => x.setIfInBounds 0 (Value.ref s.heap.objs.size)) (o' := gfO s.heap.objs.size) (pre := [(s.heap.objs.size, tupO #[wv])]) (post := news) (F.push _) N1
    (fun p hp => by rw [List.mem_singleton.mp hp]; exact Ne.symm (Nat.ne_of_lt (lt _ (.head _)))) off rfl rfl
  exact hq _ _ F2 N2 fun p hp => by
    rcases List.mem_cons.mp hp with rfl | hp
    · exact lt (e, gfO t0) (.head _)
    · exact lt _ (.tail _ hp)
theorem gf_refuse (self : Value) : refuseLoop self "__setattr__" (.ref 67 :: gfMro) = pure () := by
  rw [refuseLoop_ref, refuseLoop_ref]
  kernel_rfl
theorem gf_open {P : Params} {R : Result → Shared → Prop} {e : Addr} {ox : Obj} {od : Option Obj} {name : Str} {tk : Tok} {v : Value} (X : (tp.heap_1 P).In s.heap) (I : InstAt s.heap e ox 67 od) (ht : takerIn (tp.heap_1 P) 67 name = some none)
    (h : ∀ b, wpAny (model prog w) A.in1 (storeInOwnDict (.ref e) (.ref 67) (.str name tk) name v b)
      (fun fin s' => match fin with | .done f => R (.ok f) s' | .again c' => c'.quiet = true ∧ codeAny (model prog w) A c' R s') (fun e s' => R (.error e) s') s) :
    codeAny (model prog w) A (.call (.builtin "object.__setattr__") ⟨[.ref e, .str name tk, v], []⟩) R s := by
  have SF := PySem.F.store_object
  have hc : ∃ cd, clsIn (tp.heap_1 P) 67 = some cd ∧ cd.mro = .ref 67 :: gfMro := by
    cases q : clsIn (tp.heap_1 P) 67 with
    | none => exact absurd q (by have : (clsIn (tp.heap_1 P) 67).isSome = true := by kernel_rfl
                                 intro z; rw [z] at this; cases this)
    | some cd =>
      refine ⟨cd, rfl, ?_⟩
      have : (clsIn (tp.heap_1 P) 67).map (·.mro) = some (.ref 67 :: gfMro) := by kernel_rfl
      rw [q] at this
      exact Option.some.inj this
  obtain ⟨cd, hc, hmro⟩ := hc
  have sub : Looks (model prog w) s.heap (isInstance (.ref e) (.type "object")) true := I.type.andThen (looks_mroIn X (by unfold mroIn; rw [hc, Option.bind_some, hmro]; rfl))
  refine codeAny_call_builtin SF.slot.plain SF.entry (@check_slot (model prog w) _ _ s "object.__setattr__" "object" "__setattr__" (.ref e) [.str name tk, v] [] _ SF.kind SF.split sub (SF.args (.ref e) (.str name tk) v) ?_)
  obtain ⟨attr, ha, hr⟩ := Option.bind_eq_some_iff.mp ht
  have hm : Looks (model prog w) s.heap (mroOf (.ref 67)) cd.mro := (looks_clsIn X hc).andThen .now
  have L3 : Looks (model prog w) s.heap (storeTaker? attr) none := by
    cases attr with
    | none => exact .now
    | some a =>
      obtain ⟨b, hb, q⟩ := Option.map_eq_some_iff.mp hr
      refine (looks_takesIn X hb).andThen ?_
      cases b with
      | true => cases q
      | false => exact .now
  rw [osa_eq, refuse_eq]
  refine wpAny_bind (wpAny_bind (I.type.here (wpAny_bind (hm.here ?_))))
  rw [hmro, gf_refuse]
  refine wpAny_pure (wpAny_bind (I.type.here (wpAny_bind ((looks_findIn X ha).here (wpAny_bind (L3.here ?_))))))
  exact h _
theorem gf_hasDict {P : Params} : ∃ cd, clsIn (tp.heap_1 P) 67 = some cd ∧ cd.hasDict = true := any_some (by kernel_rfl)
theorem set_first {e : Addr} {vs : Array Value} {name : Str} {v : Value} {Q : Unit → Shared → Prop} (F : Fr h₀ L s.heap m) (X₀ : (tp.heap_1 w.params).In h₀) (N : News h₀ L s.heap ((e, { cls := .ref 67, data := .fields vs }) :: news)) (off : ∀ p ∈ news, p.1 ≠ e)
    (ht : takerIn (tp.heap_1 w.params) 67 name = some none)
    (hq : ∀ d h', Fr h₀ L h' m → News h₀ L h' ((d, dictOf [DictEntry.mk (PyData.keyHash w.params name) (.str name (s.toks + 1)) v] 1) :: (e, { cls := .ref 67, dict := some d, data := .fields vs }) :: news) → (∀ p ∈ (e, ({ cls := .ref 67, dict := some d, data := .fields vs } : Obj)) :: news, p.1 < d) →
      Q () { s with heap := h', toks := s.toks + 2 }) : wpAny (model prog w) A (setAttr (.ref e) name v) Q E s := by
  have X := X₀.keeps F.keep
  have I : InstAt s.heap e { cls := .ref 67, data := .fields vs } 67 none := ⟨(N _ (.head _)).1, rfl, rfl, trivial⟩
  refine set_plain X I (by kernel_rfl) (gf_open (s := { s with toks := s.toks + 1 }) X I ht fun b => ?_)
  obtain ⟨cd, hc, hd'⟩ := gf_hasDict (P := w.params)
  have X1 : (tp.heap_1 w.params).In ({ s with toks := s.toks + 1 } : Shared).heap := X
  refine wpAny_bind (wpAny_pure (wpAny_bind (wpAny_bind (wpAny_loadPart I.at_ (wpAny_bind ((looks_clsIn (M := model prog w) X1 hc).here ?_))))))
  rw [hd']
  show wpAny _ _ (alloc { cls := .type "dict", data := .dict #[] } >>= fun d => update e (fun o => { o with dict := some d }) >>= fun _ => dictMade (.ref 67) e d) _ _ _
  have N1 : News h₀ L (s.heap.push { cls := .type "dict", data := .dict #[] }) ((s.heap.objs.size, { cls := .type "dict", data := .dict #[] }) :: (e, { cls := .ref 67, data := .fields vs }) :: news) :=
    news_pushed F N (fun b o h => Heap.get?_push_of_some _ h) (Heap.get?_push_size _ rfl) rfl
  have lt : ∀ p ∈ (e, ({ cls := .ref 67, data := .fields vs } : Obj)) :: news, p.1 < s.heap.objs.size := fun p hp => Heap.lt_size (N p hp).1
  have hne : s.heap.objs.size ≠ e := Ne.symm (Nat.ne_of_lt (lt (e, _) (.head _)))
  refine wpAny_bind (wpAny_alloc (wpAny_bind (wpAny_update (N1 (e, _) (.tail _ (.head _))).1 (wpAny_pure ?_))))
  obtain ⟨F2, N2⟩ := news_upd (f := fun o => { o with dict := some s.heap.objs.size }) (o' := { cls := .ref 67, dict := some s.heap.objs.size, data := .fields vs }) (pre := [(s.heap.objs.size, { cls := .type "dict", data := .dict #[] })]) (post := news) (F.push _) N1
    (fun p hp => by rw [List.mem_singleton.mp hp]; exact hne) off rfl rfl
  obtain ⟨F3, N3⟩ := news_upd (f := Obj.putName name (PyData.keyHash w.params name) (.str name (s.toks + 1)) v) (o' := dictOf [DictEntry.mk (PyData.keyHash w.params name) (.str name (s.toks + 1)) v] 1) (pre := []) (post := (e, { cls := .ref 67, dict := some s.heap.objs.size, data := .fields vs }) :: news) F2 N2
    (fun p hp => nomatch hp) (fun p hp => by
      rcases List.mem_cons.mp hp with rfl | hp
      · exact Ne.symm hne
      · exact Nat.ne_of_lt (lt _ (.tail _ hp))) rfl rfl
  refine wpAny_bind (wpAny_pure (wpAny_bind ?_))
  unfold nsSet
  refine wpAny_bind (wpAny_bind (wpAny_askSetting (wpAny_pure (wpAny_bind (wpAny_mkText (wpAny_bind (wpAny_loadPart (N2 _ (.head _)).1 ?_)))))))
  dsimp only
  rw [aRefKeyMayBeTheName_at, show (!(#[] : Array DictEntry).any (·.key.isStr name) && (#[] : Array DictEntry).any (·.refKey)) = false from by simp]
  refine wpAny_updatePart (N2 _ (.head _)).1 ?_
  refine wpAny_bind (wpAny_lookBehind (N3 _ (.head _)).1 (pastItsLine_dict (by rw [sizeLine_eq]; simp)) ?_)
  exact wpAny_pure (hq _ _ F3 N3 fun p hp => by
    rcases List.mem_cons.mp hp with rfl | hp
    · exact lt (e, { cls := .ref 67, data := .fields vs }) (.head _)
    · exact lt _ (.tail _ hp))
theorem set_second {e d : Addr} {vs : Array Value} {name : Str} {v : Value} {en : DictEntry} {Q : Unit → Shared → Prop} (F : Fr h₀ L s.heap m) (X₀ : (tp.heap_1 w.params).In h₀) (N : News h₀ L s.heap ((d, dictOf [en] 1) :: (e, { cls := .ref 67, dict := some d, data := .fields vs }) :: news)) (off : ∀ p ∈ (e, ({ cls := .ref 67, dict := some d, data := .fields vs } : Obj)) :: news, p.1 ≠ d)
    (ht : takerIn (tp.heap_1 w.params) 67 name = some none) (hn : en.key.isStr name = false) (hr : en.refKey = false)
    (hq : ∀ h', Fr h₀ L h' m → News h₀ L h' ((d, dictOf [en, DictEntry.mk (PyData.keyHash w.params name) (.str name (s.toks + 1)) v] 2) :: (e, { cls := .ref 67, dict := some d, data := .fields vs }) :: news) →
      Q () { s with heap := h', toks := s.toks + 2 }) : wpAny (model prog w) A (setAttr (.ref e) name v) Q E s := by
  have X := X₀.keeps F.keep
  have I : InstAt s.heap e { cls := .ref 67, dict := some d, data := .fields vs } 67 (some (dictOf [en] 1)) := ⟨(N _ (.tail _ (.head _))).1, rfl, rfl, (N _ (.head _)).1⟩
  refine set_plain X I (by kernel_rfl) (gf_open (s := { s with toks := s.toks + 1 }) X I ht fun b => ?_)
  obtain ⟨cd, hc, hd'⟩ := gf_hasDict (P := w.params)
  have X1 : (tp.heap_1 w.params).In ({ s with toks := s.toks + 1 } : Shared).heap := X
  refine wpAny_bind (wpAny_pure (wpAny_bind (wpAny_bind (wpAny_loadPart I.at_ (wpAny_bind ((looks_clsIn (M := model prog w) X1 hc).here ?_))))))
  rw [hd']
  have hf : [en].toArray.findIdx? (·.key.isStr name) = none := by simp [hn]
  obtain ⟨F3, N3⟩ := news_upd (f := Obj.putName name (PyData.keyHash w.params name) (.str name (s.toks + 1)) v) (o' := dictOf [en, DictEntry.mk (PyData.keyHash w.params name) (.str name (s.toks + 1)) v] 2) (pre := []) F N
    (fun p hp => nomatch hp) off (by rw [putName_dict]; simp [putL, putN, hn]) rfl
  refine wpAny_pure (a := some d) (wpAny_bind (wpAny_pure (wpAny_bind ?_)))
  unfold nsSet
  refine wpAny_bind (wpAny_bind (wpAny_askSetting (wpAny_pure (wpAny_bind (wpAny_mkText (wpAny_bind (wpAny_loadPart (N _ (.head _)).1 ?_)))))))
  dsimp only
  rw [aRefKeyMayBeTheName_at, show (!([en].toArray).any (·.key.isStr name) && ([en].toArray).any (·.refKey)) = false from by simp [hr]]
  refine wpAny_updatePart (N _ (.head _)).1 ?_
  refine wpAny_bind (wpAny_lookBehind (N3 _ (.head _)).1 (pastItsLine_dict (by rw [sizeLine_eq]; simp)) ?_)
  exact wpAny_pure (hq _ F3 N3)
theorem gf_check_new {P : Params} {M : Model} {rest : List Value} {Q : Unit → Shared → Prop} (X : (tp.heap_1 P).In s.heap) (hq : Q () s) :
    wpAny M A (checkBuiltinCall "Exception.__new__" ⟨.ref 67 :: rest, []⟩) Q E s := by
  obtain ⟨h, g, d, t, os⟩ := s
  have F := PySem.F.excBase_Exception
  have hC := gf_cls X
  have hcB : (Value.ref 67 :: gfMro).contains (.type "Exception") = true := gf_has (by decide +kernel)
  have hstar := F.noStar
  simp only [checkBuiltinCall, F.newKind, F.newSplit, F.newRow]
  repeat (first | refine wpAny_loadPart_at hC ?_ | (refine wpAny_isSubtype_exc hC ?_; rw [hcB]) | refine wpAny_staticBase_exc hC ?_ | refine wpAny_madeBy_exc hC ?_ | simp only [bne_self_eq_false, Bool.false_eq_true, if_false] | wp_step)
  exact hq
theorem gf_new {P : Params} {rest : List Value} {R : Result → Shared → Prop} (X : (tp.heap_1 P).In s.heap)
    (hq : R (.ok (.ret (.ref (s.heap.objs.size + 1)))) { s with heap := (s.heap.push (tupO rest.toArray)).push (gfO s.heap.objs.size) }) (hrest : rest.length ≤ sizeLine) :
    codeAny (model prog w) A (.builtin "Exception.__new__" ⟨.ref 67 :: rest, []⟩) R s := by
  obtain ⟨h, g, d, t, os⟩ := s
  have F := PySem.F.excBase_Exception
  have hC := gf_cls X
  have hends := F.ends
  have hcB : (Value.ref 67 :: gfMro).contains (.type "Exception") = true := gf_has (by decide +kernel)
  have hcA : (Value.ref 67 :: gfMro).contains (.type "AttributeError") = false := gf_has (by decide +kernel)
  have hcN : (Value.ref 67 :: gfMro).contains (.type "NameError") = false := gf_has (by decide +kernel)
  refine codeAny_builtinAt F.entry ?_
  unfold Builtin.«BaseException.__new__»
  refine PySem.wpAt_bind ?_
  show PySem.wpAt _ _ _ (stack >>= _) _ _ _
  refine PySem.wpAt_bind (PySem.wpAt_stack fun p below => PySem.wpAt_of_wpAny ?_)
  wp_walk
  refine PySem.wpAt_of_wpAny ?_
  rw [F.owner]
  repeat (first | with_reducible refine wpAny_madeHere_exc F.canon hC ?_ | with_reducible refine wpAny_loadPart_at hC ?_ | (with_reducible refine wpAny_isSubtype_exc hC ?_; first | rw [hcB] | rw [hcA] | rw [hcN]) | wp_step)
  show R _ _
  rw [Heap.size_push]
  exact hq
/-- a fault is made: the class is called -/
theorem gf_call {P : Params} {rest : List Value} {Q : Value → Shared → Prop} (X : (tp.heap_1 P).In s.heap) (hrest : rest.length ≤ sizeLine)
    (hq : ∀ h' e, Heap.MadeExcOf s.heap h' e (.ref 67) rest → wpAny (model prog w) (A.under (.builtin "type.__call__" ⟨.ref 67 :: rest, []⟩)) (call (.ref 44) (.ref e :: rest)) (fun r s' => r = .none ∧ Q (.ref e) s') E { s with heap := h' }) :
    wpAny (model prog w) A (call (.ref 67) rest) Q E s := by
  obtain ⟨h, g, d, t, os⟩ := s
  have X : (tp.heap_1 P).In h := X
  have hC := gf_cls X
  have f1 := tc_lookup
  have f2 := tc_bind (.ref 67)
  have F := PySem.F.excBase_Exception
  have hcB : (Value.ref 67 :: gfMro).contains (.type "Exception") = true := gf_has (by decide +kernel)
  have hcA : (Value.ref 67 :: gfMro).contains (.type "AttributeError") = false := gf_has (by decide +kernel)
  have hcN : (Value.ref 67 :: gfMro).contains (.type "NameError") = false := gf_has (by decide +kernel)
  have hT : (⟨h, g, d, t, os⟩ : Shared).TypeIs (.ref 67) "type" := ⟨_, hC, rfl⟩
  refine wpAny_call (codeAny_of_tree ?_)
  show wpAny _ _ (callAny (.ref 67) _) _ _ _
  repeat (any_goals (first | assumption | with_reducible refine wpAny_loadPart_at hC ?_ | wp_step))
  refine ⟨rfl, ?_⟩
  refine codeAny_call_builtin_at (Code.quiet_builtin _ (by decide +kernel)) entry_typeCall (wpAny_check_type_call_sub hC ?_)
  repeat (first | with_reducible refine wpAny_loadPart_at hC ?_ | with_reducible refine wpAny_madeBy_exc hC ?_ | wp_step)
  refine codeAny_call_builtin_code (Code.quiet_builtin _ F.quiet) (gf_check_new X ?_)
  refine gf_new X ?_ hrest
  show wpAny _ _ _ _ _ ⟨(h.push (tupO rest.toArray)).push (gfO h.objs.size), g, d, t, os⟩
  have up : ∀ b o, h.get? b = some o → ((h.push (tupO rest.toArray)).push (gfO h.objs.size)).get? b = some o := fun b o e => Heap.get?_push_of_some _ (Heap.get?_push_of_some _ e)
  have hC₁ := up _ _ hC
  have X₁ : (tp.heap_1 P).In ((h.push (tupO rest.toArray)).push (gfO h.objs.size)) := X.keeps up
  have hget : ((h.push (tupO rest.toArray)).push (gfO h.objs.size)).get? (h.objs.size + 1) = some (gfO h.objs.size) := Heap.get?_push_at (by simp only [Heap.size_push]) rfl
  have hcC : (Value.ref 67 :: gfMro).contains (.ref 67) = true := by simp
  unfold isInstance
  repeat (first | (with_reducible refine wpAny_loadPart_at hget ?_) | ((show wpAny _ _ (isSubtype (.ref 67) _) _ _ _); refine wpAny_isSubtype_exc hC₁ ?_; rw [hcC]) | wp_step)
  have hi : findIn (tp.heap_1 P) (.ref 67) "__init__" = some (some (.ref 44)) := by kernel_rfl
  have hf : ∃ oI, ((h.push (tupO rest.toArray)).push (gfO h.objs.size)).get? 44 = some oI ∧ oI.cls = .type "function" := fn_of X₁ (by kernel_rfl)
  obtain ⟨oI, hfI, hfc⟩ := hf
  show wpAny _ _ (typeLookup (.ref 67) _) _ _ ⟨(h.push (tupO rest.toArray)).push (gfO h.objs.size), g, d, t, os⟩
  have X₂ : (tp.heap_1 P).In (⟨(h.push (tupO rest.toArray)).push (gfO h.objs.size), g, d, t, os⟩ : Shared).heap := X₁
  refine (looks_findIn X₂ hi).here ?_
  refine wpAny_holding (wpAny_bind ?_)
  unfold bindSpecial
  refine wpAny_bind (wpAny_typeOf (T := "function") ⟨_, hfI, hfc⟩ ?_)
  rw [if_pos (by decide)]
  refine wpAny_pure (wpAny_bind (wpAny_mono (hq _ (h.objs.size + 1) ⟨up, Heap.get?_none_of_le (Nat.le_succ _), h.objs.size, hget, Heap.get?_none_of_le (Nat.le_refl _), Heap.get?_push_of_some _ (Heap.get?_push_at rfl rfl)⟩) (fun r s' hr => ?_) fun _ _ x => x))
  obtain ⟨rfl, hQ⟩ := hr
  wp_walk
  exact hQ
end
end Og91
end

/-! CMade -/
section
open Og91
set_option maxRecDepth 100000
set_option maxHeartbeats 8000000
namespace Og91
abbrev gfE (t D : Addr) : Obj := { cls := .ref 67, dict := some D, data := .fields #[.ref t, .none, .none, .none, .bool false, .none] }
abbrev gfD (P : Params) (t1 t2 : Tok) (wv av : Value) : Obj := dictOf [DictEntry.mk (PyData.keyHash P "what") (.str "what" t1) wv, DictEntry.mk (PyData.keyHash P "at") (.str "at" t2) av] 2
theorem exc_swap {h₀ h : Heap} {L : Addr} {a b : Addr × Obj} {news : List (Addr × Obj)} (N : News h₀ L h (a :: b :: news)) : News h₀ L h (b :: a :: news) := fun p hp => by
  rcases List.mem_cons.mp hp with rfl | hp
  · exact N _ (.tail _ (.head _))
  · rcases List.mem_cons.mp hp with rfl | hp
    · exact N _ (.head _)
    · exact N _ (.tail _ (.tail _ hp))
theorem made_news {h₀ h : Heap} {L : Addr} {a b c d : Addr × Obj} {news : List (Addr × Obj)} (N : News h₀ L h (a :: b :: c :: d :: news)) : News h₀ L h (b :: a :: news) := fun p hp => by
  rcases List.mem_cons.mp hp with rfl | hp
  · exact N _ (.tail _ (.head _))
  · rcases List.mem_cons.mp hp with rfl | hp
    · exact N _ (.head _)
    · exact N _ (.tail _ (.tail _ (.tail _ (.tail _ hp))))
local macro_rules | `(tactic| walk_at "pad") => `(tactic| fail "no line")
local macro_rules | `(tactic| walk_at "getMethod type:Exception") => `(tactic| (k_here; refine' method_type ?F ?X ?m (by decide +kernel) ?e ?h ?_; (case F => k_asm); (case X => k_asm); (case m => kernel_rfl); (case e => k_dflt k_is); (case h => k_handed)))
local macro_rules | `(tactic| walk_at "call builtin:Exception.__init__") => `(tactic| (k_here; k_dflt (refine' exc_init_N ?F ?X ?N ?o ?_; (case F => k_asm); (case X => k_asm); (case N => k_asm); (case o => k_all); k_whole); intro t8 h8 F8 N8 l8; (try k_lt l8); (try k_sweep)))
local macro_rules | `(tactic| k_all) => `(tactic| with_reducible assumption)
local macro_rules | `(tactic| walk_at "setAttr ref") => `(tactic| (k_here; k_dflt (refine' set_second ?F ?X ?N ?o ?c ?n ?r ?_; (case F => k_asm); (case X => k_asm); (case N => k_asm); (case o => k_all); (case c => k_is); (case n => exact rfl); (case r => exact rfl); k_whole); intro h8 F8 N8; (try k_sweep)))
local macro_rules | `(tactic| walk_at "setAttr ref") => `(tactic| (k_here; k_dflt (refine' set_first ?F ?X ?N ?o ?c ?_; (case F => k_asm); (case X => k_asm); (case N => exact exc_swap (by k_asm)); (case o => k_all); (case c => k_is); k_whole); intro d8 h8 F8 N8 l8; (try k_lt l8); (try k_sweep)))
section
variable {w : World} {p : Program} {loose : List Str} {mean : ExcName → Option Value} {mg mb : Str → Option Value}
theorem gf_made {dp un : Nat} {gd : Option (List Code)} {cn : Str} {cs : Scope} {a : Addr} {ccd : Value} {clx : List (Str × Addr)} {outer : List Env}
    {A₀ : Around} {base h₀ : Heap} {L : Addr} {m : Str → Option Value} {s : Shared} {Q E : Value → Shared → Prop} {news : List (Addr × Obj)} {pa : Addr} {wt : Str} {tk : Tok}
    (B : Below A₀ base outer h₀) (F : Fr h₀ L s.heap m) (X : (tp.heap_1 w.params).In h₀) (N : News h₀ L s.heap news) (T : Top p loose mean mg mb h₀) (hks : cs.kind = .function)
    (hd : dp + 10 < recursionLimit) (hu : un + 100 < cLine)
    (ret : ∀ e D t1 w1 w2 h' tk', Fr h₀ L h' m → News h₀ L h' ((e, gfE t1 D) :: (D, gfD w.params w1 w2 (.str wt tk) (.ref pa)) :: news) → (∀ q ∈ (D, gfD w.params w1 w2 (.str wt tk) (.ref pa)) :: news, q.1 ≠ e) → Q (.ref e) { s with heap := h', toks := tk' }) :
    wpAny (model PySem.Challenge.rw_og0091_01.row.prog w) (ktrTop dp un gd cn cs L a ccd clx outer) (call (.ref 67) [.str wt tk, .ref pa]) Q E s := by
  revert X
  w_top off
  k_fill
  intro X
  refine gf_call (X.keeps F.keep) (by rw [sizeLine_eq]; show 2 ≤ _; omega) fun h1 e hm => ?_
  obtain ⟨t0, he, htn, ht⟩ := hm.there
  have fresh : ∀ b, s.heap.get? b = none → h₀.get? b = none := fun b hb => by
    cases q : h₀.get? b with
    | none => rfl
    | some o => rw [F.keep _ _ q] at hb; cases hb
  have F1 : Fr h₀ L h1 m := F.keeps hm.keeps
  have N1 : News h₀ L h1 ((e, gfO t0) :: (t0, tupO #[.str wt tk, .ref pa]) :: news) := News.more F1 (News.more F1 (N.grown hm.keeps) ht (fun es n q => by cases q) (fresh _ htn)) he (fun es n q => by cases q) (fresh _ hm.new)
  have off : ∀ q ∈ (t0, tupO #[.str wt tk, .ref pa]) :: news, q.1 ≠ e := fun q hq z => by
    have hn := hm.new
    rcases List.mem_cons.mp hq with rfl | hq
    · have z : t0 = e := z
      rw [z, he] at ht; cases ht
    · have := (N _ hq).1; rw [z, hn] at this; cases this
  clear N F
  refine wpAny_call ?_
  k_dflt ktr_enter
  k_steps
  refine ret e _ _ _ _ _ _ (by assumption) (made_news (by assumption)) ?_
  intro q hq
  rcases List.mem_cons.mp hq with rfl | hq
  · refine Ne.symm (Nat.ne_of_lt ?_)
    omega
  · exact off q (.tail _ hq)
end
end Og91
end

/-! Fly -/
section
open Og91
set_option maxRecDepth 100000
set_option maxHeartbeats 4000000
namespace Og91
/-- a fault with its dict on its way out; fl: the frame that its newest note names -/
def FlyD (base : Heap) (l : List Env) (e D : Addr) (fl : Value) (h : Heap) : Prop :=
  base.StaysIn h ∧ base.get? e = none ∧ h.FunFrames base l ∧ ∃ vs T oT ts, h.get? e = some { cls := .ref 67, dict := some D, data := .fields vs } ∧ vs[1]? = some (.ref T) ∧ base.get? T = none ∧ T ≠ e ∧ h.get? T = some oT ∧ oT.data = .fields ts ∧ ts[3]? = some fl
theorem FlyD.there {base h : Heap} {l : List Env} {e D : Addr} {fl : Value} (x : FlyD base l e D fl h) : ∃ vs, h.get? e = some { cls := .ref 67, dict := some D, data := .fields vs } :=
  let ⟨_, _, _, vs, _, _, _, he, _⟩ := x; ⟨vs, he⟩
section
variable {M : Model} {A : Around} {E : Value → Shared → Prop} {s : Shared} {base : Heap} {env : Env} {outer : List Env} {L e D : Addr} {Q : Unit → Shared → Prop}
theorem entryD {vs : Array Value} {head : Value} {hadNext : Bool} (hfr : A.frames = some (env :: outer)) (hl : s.heap.FunFrames base (env :: outer)) (hf : env.frame = some L)
    (he : s.heap.get? e = some { cls := .ref 67, dict := some D, data := .fields vs }) (hkb : base.StaysIn s.heap) (hen : base.get? e = none) (hsz : 1 < vs.size)
    (h : ∀ h', FlyD base (env :: outer) e D (rawInt L) h' → s.heap.UpToSlots h' → Q () { s with heap := h' }) :
    wpAny M A (do let a ← frameOf env; let pl ← entryPlaceOf L hadNext; let b ← EntryCells.newEntry head a .none (rawInt L) .none pl; setField (.ref e) 1 b) Q E s := by
  have hene : e ∉ (env :: outer).filterMap (·.frame) := fun hm => by
    obtain ⟨_, o, ho, hnf⟩ := hl.mem hm
    rw [he] at ho
    cases ho
    exact hnf vs rfl
  refine wpAny_bind (wpAny_frameOf_fun hfr hl hf fun h₁ hs₁ => ?_)
  refine wpAny_bind (wpAny_entryPlaceOf fun pl hpl => ?_)
  unfold EntryCells.newEntry newFields
  refine wpAny_bind (wpAny_newObj_type ?_ (hpl.sizeOk5 _ _ _ _ _))
  have he₁ := (hs₁.2.1 e hene).trans he
  have kb₁ : base.StaysIn h₁ := fun b o hbo => (hs₁.2.1 b fun hm => by rw [(hl.mem hm).1] at hbo; cases hbo).trans (hkb b o hbo)
  generalize hto : ({ cls := .type "traceback", dict := none, data := .fields ([head, .ref L, .none, rawInt L, .none] ++ (if pl.isEmpty then List.replicate 6 Value.none else pl)).toArray } : Obj) = to
  have htd : to.data = .fields ([head, .ref L, .none, rawInt L, .none] ++ (if pl.isEmpty then List.replicate 6 Value.none else pl)).toArray := by rw [← hto]
  have hnf : to.isFreed = false := by rw [← hto]; rfl
  have he₂ := Heap.get?_push_of_some to he₁
  refine wpAny_setField he₂ rfl hsz (h _ ?_ ?_)
  · have hTe : h₁.objs.size ≠ e := Nat.ne_of_gt (Heap.lt_size he₁)
    refine ⟨fun b o hbo => ?_, hen, hl.of_keeps fun b o hb hn => ?_, _, h₁.objs.size, _, _, Heap.get?_update_self (Obj.mapFields (·.setIfInBounds 1 (Value.ref h₁.objs.size))) he₂ rfl, by simp [hsz], kb₁.fresh, hTe,
      (Heap.get?_update_other (h₁.push to) (Obj.mapFields (·.setIfInBounds 1 (Value.ref h₁.objs.size))) (Ne.symm hTe)).trans (Heap.get?_push_size h₁ hnf), htd, ?_⟩
    · have hbe : b ≠ e := fun q => by rw [q, hen] at hbo; cases hbo
      rw [Heap.get?_update_other _ _ (Ne.symm hbe)]
      exact Heap.get?_push_of_some _ (kb₁ b o hbo)
    · obtain ⟨sl, hs⟩ := hs₁.2.2 b o hb
      have hbe : b ≠ e := fun q => by rw [q, he] at hb; cases hb; exact hn vs rfl
      exact ⟨{ o with slots := sl }, by rw [Heap.get?_update_other _ _ (Ne.symm hbe)]; exact Heap.get?_push_of_some _ hs, rfl⟩
    · first | (simp; done) | (rcases hpl with rfl | ⟨_, _, _, _, _, _, _, rfl⟩ <;> simp)
  · intro b o hb hn
    obtain ⟨sl, hs⟩ := hs₁.2.2 b o hb
    have hbe : b ≠ e := fun q => by rw [q, he] at hb; cases hb; exact hn vs rfl
    exact ⟨sl, by rw [Heap.get?_update_other _ _ (Ne.symm hbe)]; exact Heap.get?_push_of_some _ hs⟩
/-- the note's frame changed: all else stays -/
theorem FlyD.turn {l : List Env} {fl fl' : Value} {h : Heap} (R : FlyD base l e D fl h) : ∃ T oT ts vs, h.get? e = some { cls := .ref 67, dict := some D, data := .fields vs } ∧ vs[1]? = some (.ref T) ∧ h.get? T = some oT ∧ oT.data = .fields ts ∧ ts[3]? = some fl ∧
    FlyD base l e D fl' (h.update T (Obj.mapFields (·.setIfInBounds 3 fl'))) ∧ h.UpToSlots (h.update T (Obj.mapFields (·.setIfInBounds 3 fl'))) := by
  obtain ⟨hkb, hen, hl, vs, T, oT, ts, he, h1, hnT, hTe, hT, hdT, h3⟩ := R
  have hsz : 3 < ts.size := (Array.getElem?_eq_some_iff.mp h3).1
  have other : ∀ b, b ≠ T → (h.update T (Obj.mapFields (·.setIfInBounds 3 fl'))).get? b = h.get? b := fun b hb => Heap.get?_update_other _ _ (Ne.symm hb)
  have nr : ∀ b o, h.get? b = some o → (∀ vs, o.data ≠ .fields vs) → b ≠ T := fun b o hb hn q => by
    rw [q, hT] at hb
    cases hb
    exact hn ts hdT
  refine ⟨T, oT, ts, vs, he, h1, hT, hdT, h3, ⟨fun b o hbo => (other b fun q => by rw [q, hnT] at hbo; cases hbo).trans (hkb b o hbo), hen, hl.of_keeps fun b o hb hn => ⟨o, (other b (nr b o hb hn)).trans hb, rfl⟩,
    vs, T, _, _, (other e (Ne.symm hTe)).trans he, h1, hnT, hTe, Heap.get?_update_self _ hT (Obj.isFreed_of_fields (Obj.data_mapFields hdT _)), Obj.data_mapFields hdT _, by simp [hsz]⟩, fun b o hb hn => ⟨o.slots, (other b (nr b o hb hn)).trans hb⟩⟩
theorem flightD {l : List Env} {fl : Value} (R : FlyD base l e D fl s.heap) (h : ∀ h', FlyD base l e D .none h' → s.heap.UpToSlots h' → Q () { s with heap := h' }) : wpAny M A (setFlight (.ref e) none) Q E s := by
  obtain ⟨T, oT, ts, vs, he, h1, hT, hdT, h3, R', U⟩ := R.turn (fl' := .none)
  unfold setFlight
  refine wpAny_bind (wpAny_field he rfl h1 ?_)
  rw [if_pos (show (Value.ref T != Value.none) = true from by simp)]
  exact wpAny_setField hT hdT (Array.getElem?_eq_some_iff.mp h3).1 (h _ R' U)
theorem noteD (hfr : A.frames = some (env :: outer)) (hf : env.frame = some L) (R : FlyD base (env :: outer) e D .none s.heap) (h : ∀ h', FlyD base (env :: outer) e D (rawInt L) h' → s.heap.UpToSlots h' → Q () { s with heap := h' }) :
    wpAny M A (noteFrame (.ref e) env) Q E s := by
  obtain ⟨T, oT, ts, vs, he, h1, hT, hdT, h3, R', U⟩ := R.turn (fl' := .none)
  unfold noteFrame
  simp only [hf]
  refine wpAny_bind (wpAny_field he rfl h1 ?_)
  rw [if_pos (show (Value.ref T != Value.none) = true from by simp)]
  refine wpAny_bind (wpAny_field hT hdT h3 ?_)
  rw [if_neg (show ¬ ((Value.none == rawInt L) = true) from by simp [rawInt])]
  refine wpAny_bind (wpAny_setField hT hdT (Array.getElem?_eq_some_iff.mp h3).1 ?_)
  obtain ⟨f1, f2, f3, vs', _, _, _, he', h1', _⟩ := R'
  exact entryD hfr f3 hf he' f1 f2 (Array.getElem?_eq_some_iff.mp h1').1 fun h' r u => h h' r (U.trans u)
theorem FlyD.tail {fl : Value} {h : Heap} (R : FlyD base (env :: outer) e D fl h) : FlyD base outer e D fl h :=
  let ⟨a, b, ⟨_, _, c⟩, d⟩ := R; ⟨a, b, c, d⟩
theorem leaveD_next (hfr : A.frames = some (env :: outer)) (hf : env.frame = some L) (R : FlyD base (env :: outer) e D .none s.heap) (h : ∀ h', FlyD base outer e D .none h' → s.heap.UpToSlots h' → Q () { s with heap := h' }) :
    wpAny M A (leaving env (.ref e)) Q E s := by
  unfold leaving
  exact wpAny_bind (noteD hfr hf R fun h1 R1 U1 => flightD (s := { s with heap := h1 }) R1 fun h2 R2 U2 => h h2 R2.tail (U1.trans U2))
theorem leaveD_first {vs : Array Value} (hfr : A.frames = some (env :: outer)) (hl : s.heap.FunFrames base (env :: outer)) (hf : env.frame = some L)
    (he : s.heap.get? e = some { cls := .ref 67, dict := some D, data := .fields vs }) (hkb : base.StaysIn s.heap) (hen : base.get? e = none) (h1 : vs[1]? = some .none)
    (h : ∀ h', FlyD base outer e D .none h' → s.heap.UpToSlots h' → Q () { s with heap := h' }) : wpAny M A (leaving env (.ref e)) Q E s := by
  unfold leaving noteFrame
  simp only [hf]
  refine wpAny_bind (wpAny_bind (wpAny_field he rfl h1 ?_))
  rw [if_neg (by decide)]
  exact entryD hfr hl hf he hkb hen (Array.getElem?_eq_some_iff.mp h1).1 fun h1 R1 U1 => flightD (s := { s with heap := h1 }) R1 fun h2 R2 U2 => h h2 R2.tail (U1.trans U2)
end
/-- a fault on its way through the frames l: what stands besides -/
def RaisedD (base G : Heap) (l : List Env) (e D : Addr) (news : List (Addr × Obj)) (h : Heap) : Prop :=
  ∃ B, base.StaysIn B ∧ (∀ b o, G.get? b = some o → b ∉ l.filterMap (·.frame) → B.get? b = some o) ∧ (∀ q ∈ news, B.get? q.1 = some q.2 ∧ G.get? q.1 = none ∧ base.get? q.1 = none) ∧ FlyD B l e D .none h
theorem RaisedD.sub {base G : Heap} {l : List Env} {e D : Addr} {news news' : List (Addr × Obj)} {h : Heap} (R : RaisedD base G l e D news h) (hs : ∀ p ∈ news', p ∈ news) : RaisedD base G l e D news' h :=
  let ⟨B, a, b, c, d⟩ := R; ⟨B, a, b, fun q hq => c q (hs q hq), d⟩
section
variable {M : Model} {A : Around} {E : Value → Shared → Prop} {s' : Shared} {base g g₂ : Heap} {outer : List Env} {L a e t D : Addr} {m : Str → Option Value} {name : Str} {scope : Scope} {cd : Value} {Q : Unit → Shared → Prop} {news : List (Addr × Obj)}
theorem leave_faultS (K : Below A base outer g) (F : Fr g L s'.heap m) (N : News g L s'.heap ((e, gfE t D) :: news)) (off : ∀ q ∈ news, q.1 ≠ e)
    (hQ : ∀ h', RaisedD base g outer e D news h' → g.UpToSlots h' → Q () { s' with heap := h' }) (hk : scope.kind = .function := by rfl) :
    wpAny M (A.deeper (envOf name scope L a cd)) (leaving (envOf name scope L a cd) (.ref e)) Q E s' := by
  have K' := K.push (name := name) (a := a) (cd := cd) F hk
  have he := N _ (.head _)
  have hin : ∀ env ∈ (envOf name scope L a cd :: outer), ∀ b, env.frame = some b → b ∈ e :: (envOf name scope L a cd :: outer).filterMap (·.frame) := fun env he b hb => .tail _ (List.mem_filterMap.mpr ⟨env, he, hb⟩)
  have hge : ∀ b o, g.get? b = some o → b ≠ e := fun b o q z => by rw [z, he.2.2] at q; cases q
  have st : base.StaysIn (hideAll s'.heap (e :: (envOf name scope L a cd :: outer).filterMap (·.frame))) := fun b o q => hideAll_get _ (K'.stays b o q) fun hm => by
    rcases List.mem_cons.mp hm with z | hm
    · exact hge b o (K.stays b o q) z
    · rw [(K'.frames.mem hm).1] at q; cases q
  have sg : ∀ b o, g.get? b = some o → b ∉ outer.filterMap (·.frame) → (hideAll s'.heap (e :: (envOf name scope L a cd :: outer).filterMap (·.frame))).get? b = some o := fun b o q nm => hideAll_get _ (F.keep b o q) fun hm => by
    rcases List.mem_cons.mp hm with z | hm
    · exact hge b o q z
    · rcases kts_mem hm with z | z
      · rw [z, kts_self F] at q
        cases q
      · exact nm z
  have hl : ∀ q ∈ news, (hideAll s'.heap (e :: (envOf name scope L a cd :: outer).filterMap (·.frame))).get? q.1 = some q.2 ∧ g.get? q.1 = none ∧ base.get? q.1 = none := fun q hq => by
    have N2 := N q (.tail _ hq)
    refine ⟨hideAll_get _ N2.1 fun hm => ?_, N2.2.2, fresh_of_stays K.stays N2.2.2⟩
    rcases List.mem_cons.mp hm with z | hm
    · exact off q hq z
    · obtain ⟨env, he, hf⟩ := List.mem_filterMap.mp hm
      rcases List.mem_cons.mp he with rfl | he
      · exact N2.2.1 (Option.some.inj hf).symm
      · obtain ⟨o, ho, _⟩ := (K.frames.mem (List.mem_filterMap.mpr ⟨env, he, hf⟩)).2
        rw [N2.2.2] at ho; cases ho
  refine leaveD_first (base := hideAll s'.heap (e :: (envOf name scope L a cd :: outer).filterMap (·.frame))) K'.stack (funFrames_hide K'.frames hin) rfl he.1 (fun b o q => of_hideAll _ q) (hideAll_none _ (.head _)) rfl fun h' R U => ?_
  exact hQ h' ⟨_, st, sg, hl, R⟩ ((Heap.UpToSlots.of_keeps F.keep).trans U)
theorem leave_onD (K : Below A base outer g) (F : Fr g L g₂ m) (R : RaisedD base g₂ (envOf name scope L a cd :: outer) e D news s'.heap) (hsm : g₂.UpToSlots s'.heap)
    (hQ : ∀ h', RaisedD base g outer e D news h' → g.UpToSlots h' → Q () { s' with heap := h' }) :
    wpAny M (A.deeper (envOf name scope L a cd)) (leaving (envOf name scope L a cd) (.ref e)) Q E s' := by
  obtain ⟨B, hB, hBG, hl, hfl⟩ := R
  exact leaveD_next (Around.frames_deeper K.stack) rfl hfl fun h' x1 x2 => hQ h' ⟨B, hB, fun b o q nm => hBG b o (F.keep b o q) (fun hm => by
      rcases kts_mem hm with z | z
      · rw [z, kts_self F] at q
        cases q
      · exact nm z), fun q hq => ⟨(hl q hq).1, kts_none F.keep (hl q hq).2.1, (hl q hq).2.2⟩, x1⟩ ((Heap.UpToSlots.of_keeps F.keep).trans (hsm.trans x2))
end
end Og91
end

/-! Catch -/
section
open PySem.Spec Og91
set_option maxRecDepth 100000
set_option maxHeartbeats 4000000
namespace Og91
theorem gf_exm {P : Params} : exmOne (tp.heap_1 P) (.ref 67) (.ref 67) = some true := by kernel_rfl
theorem gf_named {P : Params} : nsIn (tp.heap_1 P) mainGlobals "GrammarFault" = some (some (.ref 67)) := by kernel_rfl
section
variable {w : World} {A₀ : Around} {E : Value → Shared → Prop} {s' : Shared} {base g g₀ G : Heap} {outer : List Env} {L a e D : Addr} {m : Str → Option Value} {name : Str} {scope : Scope} {cd : Value} {cl : List (Str × Addr)}
  {n : Str} {b₀ : Stmt} {suite : List Stmt} {pos np : Pos} {rest : List ExceptHandler} {Q : Flow → Shared → Prop} {news : List (Addr × Obj)} {prog : Program}
  {p : Program} {loose : List Str} {mean : ExcName → Option Value} {mg mb : Str → Option Value}
theorem caught_fault (R : RaisedD base G (envX name scope L a cd cl :: outer) e D news s'.heap) (F : Fr g L G m) (K : Below A₀ base outer g) (hsm : G.UpToSlots s'.heap) (XB : (tp.heap_1 w.params).In base) (TB : Top p loose mean mg mb base)
    (Dd : KtsDicts (outer.filterMap (·.frame)) g) (T0 : KtsTurn (outer.filterMap (·.frame)) g₀ g)
    (k : ∀ h' g' vs tk, KtsTurn (outer.filterMap (·.frame)) g₀ g' → Fr g' L h' (fun y => if y = n then some (.ref e) else m y) → News g' L h' ((e, { cls := .ref 67, dict := some D, data := .fields vs }) :: news) → Below A₀ base outer g' → (tp.heap_1 w.params).In g' → Top p loose mean mg mb g' → KtsDicts (outer.filterMap (·.frame)) g' →
      wpAny (model prog w) ((A₀.deeper (envX name scope L a cd cl)).mark (some (.ref e))) (execs (b₀ :: suite) (envX name scope L a cd cl))
        (fun f s₄ => wpAny (model prog w) (A₀.deeper (envX name scope L a cd cl)) (do bindName (envX name scope L a cd cl) n .none; unbindBehindTheSuite (envX name scope L a cd cl) n pos) (fun _ s₅ => Q f s₅) E s₄)
        (AsSuiteRaised (model prog w) ((A₀.deeper (envX name scope L a cd cl)).mark (some (.ref e))) (envX name scope L a cd cl) n pos (notedBy (model prog w) ((A₀.deeper (envX name scope L a cd cl)).mark (some (.ref e))) (envX name scope L a cd cl) (cameBackBy (model prog w) (A₀.deeper (envX name scope L a cd cl)) (envX name scope L a cd cl) E)))
        { s' with heap := h', toks := tk })
    (hk : scope.kind = .function := by rfl) (hlo : (envX name scope L a cd cl).kindOf n = some .local := by rfl) (hx : (envX name scope L a cd cl).kindOf "GrammarFault" = some .globalImplicit := by rfl) :
    wpAny (model prog w) (A₀.deeper (envX name scope L a cd cl)) (noteFrame (.ref e) (envX name scope L a cd cl))
      (fun _ s₂ => wpAny (model prog w) (A₀.deeper (envX name scope L a cd cl)) (setFlight (.ref e) none) (fun _ s₃ =>
        wpAny (model prog w) (A₀.deeper (envX name scope L a cd cl)) (handleBy (.ref e) (envX name scope L a cd cl) (.ExceptHandler (some (.Name "GrammarFault" np)) (some n) (b₀ :: suite) pos :: rest)) Q E s₃) E s₂) E s' := by
  obtain ⟨B, hB, hBG, hl, hfl⟩ := R
  have hBG : ∀ b o, G.get? b = some o → b ∉ (envOf name scope L a cd :: outer).filterMap (·.frame) → B.get? b = some o := hBG
  have hL : B.get? L = none := by
    obtain ⟨_, ⟨L', _, hf, hn', _⟩, _⟩ := hfl.2.2.1
    obtain rfl : L = L' := Option.some.inj hf
    exact hn'
  refine noteD (Around.frames_deeper K.stack) rfl hfl fun h₄ R₄ U₄ => ?_
  refine flightD (s := { s' with heap := h₄ }) R₄ fun h₅ R₅ U₅ => ?_
  have hsm₅ : G.UpToSlots h₅ := (hsm.trans U₄).trans U₅
  obtain ⟨g₅, T₅, F₅, K₅⟩ := kts_ground (name := name) (scope := scope) (a := a) (cd := cd) K F hBG R₅.1 hsm₅
  have LT : Looks (model prog w) h₅ (typeOf (.ref e)) (.ref 67) := by
    obtain ⟨vs, he⟩ := R₅.there
    exact (Looks.ld (part := none) he).andThen .now
  have X₅ := XB.keeps K₅.stays
  have T₅' := TB.keeps K₅.stays
  refine wpAny_handleBy_cons (codeAny_handlers_test (Name_function_global hk hx (loadGlobal_global (env := envX name scope L a cd cl) ((T₅'.keeps F₅.keep).g) (mg_of X₅ T₅'.g gf_named) ?_) (by decide))) (by intro q; cases q)
  refine (exm_one (X₅.keeps F₅.keep) LT gf_exm).here ?_
  refine codeAny_handlers_suite_as ?_
  refine flightD (s := { s' with heap := h₅ }) R₅ fun h₇ R₇ U₇ => ?_
  have hsm₇ : G.UpToSlots h₇ := hsm₅.trans U₇
  obtain ⟨g₇, T₇, F₇, K₇⟩ := kts_ground (name := name) (scope := scope) (a := a) (cd := cd) K F hBG R₇.1 hsm₇
  obtain ⟨vs, he⟩ := R₇.there
  have ne : g₇.get? e = none := T₇.none_ _ (kts_fresh F hBG R₇.2.1 fun o ho m => by
    obtain ⟨_, o', ho', hd⟩ := K.frames.mem m
    rw [ho] at ho'
    cases ho'
    obtain ⟨sl, hs⟩ := hsm₇ _ _ (F.keep _ _ ho) hd
    rw [he] at hs
    exact hd vs (congrArg Obj.data (Option.some.inj hs)).symm)
  have Nl : News g₇ L h₇ news := fun q hq => ⟨R₇.1 _ _ (hl q hq).1, (fun z => by have := (hl q hq).1; rw [z, hL] at this; cases this), T₇.none_ _ (kts_none F.keep (hl q hq).2.1)⟩
  have N₇ := News.more F₇ Nl he (fun es n q => by cases q) ne
  refine wpAny_storeName_local (env := envX name scope L a cd cl) (s := { s' with heap := h₇ }) hlo F₇.ns (fun h₈ hn hs => ?_)
    (by show (scope.kind == .class || (scope.kind == .module && L != mainGlobals)) = false; rw [hk]; rfl)
  exact k h₈ g₇ _ _ (T0.trans T₇) (F₇.set hn hs) (N₇.set hs) K₇ (XB.keeps K₇.stays) (TB.keeps K₇.stays) (Dd.turn T₇)
end
end Og91
end

/-! CFault -/
section
open Og91
set_option maxRecDepth 100000
set_option maxHeartbeats 8000000
namespace Og91
section
variable {prog : Program} {w : World} {A : Around} {E : Value → Shared → Prop} {s : Shared} {h₀ : Heap} {L : Addr} {news : List (Addr × Obj)} {tl : Addr} {ts : List Addr} {rs : List Int} {nl : Nat}
theorem truthy_toks {Q : Bool → Shared → Prop} (N : News h₀ L s.heap news) (hm : (tl, W.listOf (ts.map Value.ref).toArray nl) ∈ news) (TK : Toks w.params news tl ts rs) (hne : 0 < rs.length) (h : Q true { s with toks := s.toks + 1 + 1 }) : wpAny (model prog w) A (truthy (.ref tl)) Q E s := by
  have e : (ts.map Value.ref).toArray.size = rs.length := by simp [TK.len]
  have e2 : (ts.map Value.ref).toArray.isEmpty = false := Bool.eq_false_iff.mpr fun z => by rw [Array.isEmpty_iff_size_eq_zero] at z; omega
  refine wpAny_truthy_list (PySem.IsL.isList (n := nl) (N _ hm).1) (by rw [e]; have := TK.small; omega) ?_
  rw [e2]
  exact h
end
local macro_rules | `(tactic| walk_at "call builtin:len") => `(tactic| (k_here; (with_reducible show wpAny _ _ (call (Value.builtin "len") [Value.ref _]) _ _ _); k_dflt (refine' len_toks ?N ?m ?t ?_; (case N => k_asm); (case m => k_mem); (case t => with_reducible assumption); k_whole)))
local macro_rules | `(tactic| walk_at "subscriptTail") => `(tactic| (k_here; (with_reducible show wpAny _ _ (subscriptTail _ _ (Value.ref _) (Value.int _ _)) _ _ _); k_dflt (refine' item_toks ?N ?m ?t ?i ?z ?_ ?s; (case N => k_asm); (case m => k_mem); (case t => with_reducible assumption); (case i => assumption); (case z => first | assumption | omega); (case s => with_unfolding_all rfl); k_whole); intro x9 r9 q9 e9; (k_dflt (obtain ⟨d9, pa9, t91, t92, t93, t94, tk9, tw9, u91, u92, m91, m92, m93⟩ := e9))))
local macro_rules | `(tactic| walk_at "truthy ref") => `(tactic| (k_here; k_dflt (refine' truthy_toks ?N ?m ?t ?l ?_; (case N => k_asm); (case m => k_mem); (case t => with_reducible assumption); (case l => assumption); k_whole)))
local macro_rules | `(tactic| walk_at "call ref") => `(tactic| (k_here; k_dflt (refine' gf_made ?B ?F ?X ?N ?T ?K ?hd ?hu ?_; (case B => k_asm); (case F => k_asm); (case X => k_asm); (case N => k_asm); (case T => k_asm); (case K => first | exact rfl | assumption); (case hd => ktr_room); (case hu => ktr_units); k_whole); intro e8 D8 t8 w81 w82 h8 tk8 F8 N8 o8; (try k_sweep)))
section
variable {w : World} {p : Program} {loose : List Str} {mean : ExcName → Option Value} {mg mb : Str → Option Value}
theorem fault_ok {dp un : Nat} {gd : Option (List Code)} {cn : Str} {cs : Scope} {a : Addr} {ccd : Value} {cl : List (Str × Addr)} {outer : List Env}
    {A₀ : Around} {base h₀ : Heap} {L : Addr} {m : Str → Option Value} {s : Shared} {Q E : Value → Shared → Prop} {news : List (Addr × Obj)} {rd tl : Addr} {k : Nat} {ts : List Addr} {rs : List Int} {wt : Str} {tj : Tok}
    (B : Below A₀ base outer h₀) (F : Fr h₀ L s.heap m) (X : (tp.heap_1 w.params).In h₀) (N : News h₀ L s.heap news) (T : Top p loose mean mg mb h₀) (hks : cs.kind = .function) (TK : Toks w.params news tl ts rs) (RD : RdIn w.params news rd tl k) (hne : 0 < rs.length)
    (hd : dp + 20 < recursionLimit) (hu : un + 160 < cLine)
    (ret : ∀ e D t1 w1 w2 wv pa u1 u2 h' tk', Fr h₀ L h' m → News h₀ L h' ((e, gfE t1 D) :: (D, gfD w.params w1 w2 wv (.ref pa)) :: news) → (∀ q ∈ (D, gfD w.params w1 w2 wv (.ref pa)) :: news, q.1 ≠ e) → (pa, tupO #[.int 1 u1, .int (((min k (rs.length - 1) : Nat) : Int) + 1) u2]) ∈ news → Q (.ref e) { s with heap := h', toks := tk' }) :
    wpAny (model PySem.Challenge.rw_og0091_01.row.prog w) (ktrTop dp un gd cn cs L a ccd cl outer) (call (.ref 113) [.ref rd, .str wt tj]) Q E s := by
  obtain ⟨dd, nd, t1, t2, t3, tk, m1, m2⟩ := id RD
  obtain ⟨nl, m3⟩ := TK.list
  have hsm := TK.small
  have hI : (if ((rs.length : Nat) : Int) - 1 < (k : Int) then ((rs.length : Nat) : Int) - 1 else (k : Int)) = ((min k (rs.length - 1) : Nat) : Int) := by split <;> omega
  have hZ : (if ((rs.length : Nat) : Int) - 1 < (k : Int) then ((rs.length : Nat) : Int) - 1 else (k : Int)) < ((rs.length : Nat) : Int) := by rw [hI]; omega
  revert X
  w_top off
  k_fill
  intro X
  refine wpAny_call ?_
  k_dflt ktr_enter
  k_steps
  exact ret _ _ _ _ _ _ _ _ _ _ _ (by assumption) (by assumption) (by assumption) (by assumption)
end
end Og91
end

/-! CMove -/
section
open Og91
set_option maxRecDepth 100000
set_option maxHeartbeats 8000000
namespace Og91
/-- a name stands there -/
def nameAt (rs : List Int) (k : Nat) : Bool := match rs[k]? with
  | some r => isName r
  | none => false
/-- for all callers: a method of the reader that may move it, or raise a fault -/
def Steps (w : World) (p : Program) (loose : List Str) (mean : ExcName → Option Value) (mg mb : Str → Option Value) (room : Nat) (rs : List Int) (k : Nat) (f : Addr) (extra : List Value) (Out : List (Addr × Obj) → Value → Nat → Prop) (Exn : Nat → Prop) : Prop :=
  ∀ (dp un : Nat) (gd : Option (List Code)) (cn : Str) (cs : Scope) (a : Addr) (ccd : Value) (cl : List (Str × Addr)) (outer : List Env) (A₀ : Around) (base h₀ : Heap) (L : Addr) (m : Str → Option Value) (rd dd nd tl : Addr) (t1 t2 t3 tk : Tok) (ts : List Addr) (rest : List (Addr × Obj)) (s : Shared)
    (Q E : Value → Shared → Prop),
    Below A₀ base outer h₀ → Fr h₀ L s.heap m → (tp.heap_1 w.params).In h₀ → News h₀ L s.heap ((rd, instObj 245 dd) :: (dd, rdD w.params t1 t2 t3 tl ((k : Nat) : Int) tk nd) :: rest) → Top p loose mean mg mb h₀ → cs.kind = .function → @Ne Nat rd dd → (∀ q ∈ rest, q.1 ≠ dd) → Toks w.params rest tl ts rs → dp + room < recursionLimit → un + 8 * room < cLine →
    (∀ v k' h' tk' tk2, Fr h₀ L h' m → News h₀ L h' ((rd, instObj 245 dd) :: (dd, rdD w.params t1 t2 t3 tl ((k' : Nat) : Int) tk2 nd) :: rest) → Out rest v k' → Q v { s with heap := h', toks := tk' }) →
    (∀ e D w1 w2 wv pa u1 u2 q k' tk2 h' tk' g₂, Fr h₀ L g₂ m → g₂.UpToSlots h' → RaisedD base g₂ (envX cn cs L a ccd cl :: outer) e D ((D, gfD w.params w1 w2 wv (.ref pa)) :: ((rd, instObj 245 dd) :: (dd, rdD w.params t1 t2 t3 tl ((k' : Nat) : Int) tk2 nd) :: rest)) h' → (pa, tupO #[.int 1 u1, .int ((q : Nat) + 1 : Int) u2]) ∈ rest → Exn q → E (.ref e) { s with heap := h', toks := tk' }) →
    wpAny (model PySem.Challenge.rw_og0091_01.row.prog w) (ktrTop dp un gd cn cs L a ccd cl outer) (call (.ref f) (.ref rd :: extra)) Q E s
section
variable {w : World} {p : Program} {loose : List Str} {mean : ExcName → Option Value} {mg mb : Str → Option Value}
theorem steps_use {room : Nat} {rs : List Int} {k : Nat} {f : Addr} {extra : List Value} {Out : List (Addr × Obj) → Value → Nat → Prop} {Exn : Nat → Prop} {dp un : Nat} {gd : Option (List Code)} {cn : Str} {cs : Scope} {a : Addr} {ccd : Value} {cl : List (Str × Addr)} {outer : List Env} {A₀ : Around} {base h₀ : Heap} {L : Addr} {m : Str → Option Value} {rd dd nd tl : Addr} {t1 t2 t3 tk : Tok} {z : Int} {ts : List Addr} {rest : List (Addr × Obj)} {s : Shared}
    {Q E : Value → Shared → Prop} (C : Steps w p loose mean mg mb room rs k f extra Out Exn) (B : Below A₀ base outer h₀) (F : Fr h₀ L s.heap m) (X : (tp.heap_1 w.params).In h₀) (N : News h₀ L s.heap ((rd, instObj 245 dd) :: (dd, rdD w.params t1 t2 t3 tl z tk nd) :: rest)) (hz : z = ((k : Nat) : Int)) (T : Top p loose mean mg mb h₀) (hk : cs.kind = .function) (hne : @Ne Nat rd dd) (off : ∀ q ∈ rest, q.1 ≠ dd) (TK : Toks w.params rest tl ts rs)
    (hd : dp + room < recursionLimit) (hu : un + 8 * room < cLine)
    (ret : ∀ v k' h' tk' tk2, Fr h₀ L h' m → News h₀ L h' ((rd, instObj 245 dd) :: (dd, rdD w.params t1 t2 t3 tl ((k' : Nat) : Int) tk2 nd) :: rest) → Out rest v k' → Q v { s with heap := h', toks := tk' })
    (exn : ∀ e D w1 w2 wv pa u1 u2 q k' tk2 h' tk' g₂, Fr h₀ L g₂ m → g₂.UpToSlots h' → RaisedD base g₂ (envX cn cs L a ccd cl :: outer) e D ((D, gfD w.params w1 w2 wv (.ref pa)) :: ((rd, instObj 245 dd) :: (dd, rdD w.params t1 t2 t3 tl ((k' : Nat) : Int) tk2 nd) :: rest)) h' → (pa, tupO #[.int 1 u1, .int ((q : Nat) + 1 : Int) u2]) ∈ rest → Exn q → E (.ref e) { s with heap := h', toks := tk' }) :
    wpAny (model PySem.Challenge.rw_og0091_01.row.prog w) (ktrTop dp un gd cn cs L a ccd cl outer) (call (.ref f) (.ref rd :: extra)) Q E s := by
  subst hz
  exact C _ _ _ _ _ _ _ _ _ _ _ _ _ _ _ _ _ _ _ _ _ _ _ _ _ _ _ B F X N T hk hne off TK hd hu ret exn
end
local macro_rules | `(tactic| walk_at "call builtin:len") => `(tactic| (k_here; (with_reducible show wpAny _ _ (call (Value.builtin "len") [Value.ref _]) _ _ _); k_dflt (refine' len_toks ?N ?m ?t ?_; (case N => k_asm); (case m => k_mem); (case t => with_reducible assumption); k_whole)))
local macro_rules | `(tactic| walk_at "subscriptTail") => `(tactic| (k_here; (with_reducible show wpAny _ _ (subscriptTail _ _ (Value.ref _) (Value.int _ _)) _ _ _); k_dflt (refine' item_toks ?N ?m ?t ?i ?z ?_ ?s; (case N => k_asm); (case m => k_mem); (case t => with_reducible assumption); (case i => exact Int.add_zero _); (case z => first | assumption | omega); (case s => with_unfolding_all rfl); k_whole); intro x9 r9 q9 e9))
section
variable {w : World} {p : Program} {loose : List Str} {mean : ExcName → Option Value} {mg mb : Str → Option Value}
theorem peek0_ok {rd tl : Addr} {k : Nat} {ts : List Addr} {rs : List Int} (hk : k < rs.length) :
    Gives PySem.Challenge.rw_og0091_01.row.prog w p loose mean mg mb 10 (fun news => Toks w.params news tl ts rs ∧ RdIn w.params news rd tl k) 99 [.ref rd]
      (fun news v => ∃ r x, rs[k]? = some r ∧ v = .ref x ∧ TokAt w.params news x r k) := by
  unfold Gives
  intro dp un gd cn cs a ccd cl outer A₀ base h₀ L m news s Q E B F X N T hks hpre hd hu ret
  obtain ⟨TK, RD⟩ := hpre
  obtain ⟨dd, nd, t1, t2, t3, tk, m1, m2⟩ := id RD
  revert X
  w_top off
  k_fill
  intro X
  refine wpAny_call ?_
  k_dflt ktr_enter
  obtain ⟨nl, m3⟩ := TK.list
  have ha : ((k : Nat) : Int) + 0 < ((rs.length : Nat) : Int) := by omega
  k_steps
  exact ret _ _ _ (by assumption) (by assumption) ⟨_, _, by assumption, rfl, by assumption⟩
end
theorem kind_at {rs : List Int} {i : Nat} {r : Int} {kk : Str} (q : rs[i]? = some r) (h : kindIs rs i kk = true) : (kd r == kk) = true := by unfold kindIs at h; rw [q] at h; exact h
theorem name_1 {rs : List Int} {k : Nat} {r : Int} (q : rs[k + 0]? = some r) : Value.bool (!!isName r) = .bool (nameAt rs k) := by rw [Nat.add_zero] at q; unfold nameAt; rw [q]; simp
theorem name_2 {rs : List Int} {k : Nat} (a : kindIs rs (k + 0) "word" = false) : Value.bool (kindIs rs (k + 0) "word") = .bool (nameAt rs k) := by
  rw [a]
  rw [Nat.add_zero] at a
  unfold nameAt
  unfold kindIs at a
  cases q : rs[k]? with
  | none => rfl
  | some r =>
    rw [q] at a
    have : isName r = false := by
      unfold isName
      rw [Bool.or_eq_false_iff, beq_eq_false_iff_ne, beq_eq_false_iff_ne]
      refine ⟨?_, ?_⟩ <;> (rintro rfl; exact absurd a (by decide +kernel))
    show Value.bool false = .bool (isName r)
    rw [this]
theorem sign_1 {rs : List Int} {k : Nat} {r : Int} {sg : Str} (q : rs[k + 0]? = some r) (a : kindIs rs (k + 0) "sign" = true) : Value.bool (wd r == sg) = .bool (kindIs rs k "sign" && worthIs rs k sg) := by
  rw [Nat.add_zero] at q a; rw [a]; unfold worthIs; rw [q]; rfl
theorem sign_2 {rs : List Int} {k : Nat} {sg : Str} (a : kindIs rs (k + 0) "sign" = false) : Value.bool (kindIs rs (k + 0) "sign") = .bool (kindIs rs k "sign" && worthIs rs k sg) := by
  rw [a]; rw [Nat.add_zero] at a; rw [a]; rfl
section
variable {w : World} {p : Program} {loose : List Str} {mean : ExcName → Option Value} {mg mb : Str → Option Value}
theorem is_reserved_at {news : List (Addr × Obj)} {tl : Addr} {ts : List Addr} {rs : List Int} {i : Nat} {r : Int} {tj : Tok} (TK : Toks w.params news tl ts rs) (q : rs[i]? = some r) (hw : kindIs rs i "word" = true) :
    Gives PySem.Challenge.rw_og0091_01.row.prog w p loose mean mg mb 5 (fun _ => True) 76 [.str (wd r) tj] (fun _ v => v = .bool (!isName r)) :=
  is_reserved_ok (TK.rng _ (List.mem_of_getElem? q)).1 (TK.rng _ (List.mem_of_getElem? q)).2 (kind_at q hw)
end
local macro_rules | `(tactic| walk_at "call ref") => `(tactic| (k_here; k_dflt (refine' gives_use (peek_ok (rs := ?rs) ?hz ?hj ?hk) ?B ?F ?X ?N ?T ?K ?P ?hd ?hu ?_; (case B => k_asm); (case F => k_asm); (case X => k_asm); (case N => k_asm); (case T => k_asm); (case K => first | exact rfl | assumption); (case P => exact ⟨by first | with_reducible assumption | exact Toks.mono (by with_reducible assumption) (by first | exact fun _ h9 => h9 | exact fun _ h9 => .tail _ h9 | exact fun _ h9 => .tail _ (.tail _ h9) | exact fun _ h9 => .tail _ (.tail _ (.tail _ h9)) | exact fun _ h9 => .tail _ (.tail _ (.tail _ (.tail _ h9))) | exact fun _ h9 => .tail _ (.tail _ (.tail _ (.tail _ (.tail _ h9))))), by first | with_reducible assumption | exact ⟨_, _, _, _, _, _, by k_mem, by k_mem⟩⟩); (case hz => first | assumption | exact (rfl : (0 : Int) = ((0 : Nat) : Int)) | exact (rfl : (1 : Int) = ((1 : Nat) : Int)) | exact (rfl : ((0 : Int) + 1) = ((1 : Nat) : Int))); (case hj => first | assumption | decide); (case hk => first | assumption | omega); (case hd => ktr_room); (case hu => ktr_units); k_whole); intro v' h' tk' F' N' o'; (try k_sweep); (k_dflt ((rcases o' with ⟨r9, x9, q9, e9, ⟨d9, pa9, t91, t92, t93, t94, tk9, tw9, u91, u92, m91, m92, m93⟩⟩ | ⟨q9, e9⟩) <;> subst e9))))
local macro_rules | `(tactic| walk_at "call ref") => `(tactic| (k_here; k_dflt (refine' gives_use (peek_kind (rs := ?rs) ?hz ?hj ?hk ?hw) ?B ?F ?X ?N ?T ?K ?P ?hd ?hu ?_; (case B => k_asm); (case F => k_asm); (case X => k_asm); (case N => k_asm); (case T => k_asm); (case K => first | exact rfl | assumption); (case P => exact ⟨by first | with_reducible assumption | exact Toks.mono (by with_reducible assumption) (by first | exact fun _ h9 => h9 | exact fun _ h9 => .tail _ h9 | exact fun _ h9 => .tail _ (.tail _ h9) | exact fun _ h9 => .tail _ (.tail _ (.tail _ h9)) | exact fun _ h9 => .tail _ (.tail _ (.tail _ (.tail _ h9))) | exact fun _ h9 => .tail _ (.tail _ (.tail _ (.tail _ (.tail _ h9))))), by first | with_reducible assumption | exact ⟨_, _, _, _, _, _, by k_mem, by k_mem⟩⟩); (case hz => first | assumption | exact (rfl : (0 : Int) = ((0 : Nat) : Int)) | exact (rfl : (1 : Int) = ((1 : Nat) : Int)) | exact (rfl : ((0 : Int) + 1) = ((1 : Nat) : Int))); (case hj => first | assumption | decide); (case hk => first | assumption | omega); (case hw => assumption); (case hd => ktr_room); (case hu => ktr_units); k_whole); intro v' h' tk' F' N' o'; (try k_sweep); (k_dflt ((rcases o' with ⟨r9, x9, q9, e9, ⟨d9, pa9, t91, t92, t93, t94, tk9, tw9, u91, u92, m91, m92, m93⟩⟩) <;> subst e9))))
local macro_rules | `(tactic| walk_at "call ref") => `(tactic| (k_here; k_dflt (refine' gives_use (is_kind_ok (rs := ?rs) ?hz ?hj ?hk) ?B ?F ?X ?N ?T ?K ?P ?hd ?hu ?_; (case B => k_asm); (case F => k_asm); (case X => k_asm); (case N => k_asm); (case T => k_asm); (case K => first | exact rfl | assumption); (case P => exact ⟨by first | with_reducible assumption | exact Toks.mono (by with_reducible assumption) (by first | exact fun _ h9 => h9 | exact fun _ h9 => .tail _ h9 | exact fun _ h9 => .tail _ (.tail _ h9) | exact fun _ h9 => .tail _ (.tail _ (.tail _ h9)) | exact fun _ h9 => .tail _ (.tail _ (.tail _ (.tail _ h9))) | exact fun _ h9 => .tail _ (.tail _ (.tail _ (.tail _ (.tail _ h9))))), by first | with_reducible assumption | exact ⟨_, _, _, _, _, _, by k_mem, by k_mem⟩⟩); (case hz => first | assumption | exact (rfl : (0 : Int) = ((0 : Nat) : Int)) | exact (rfl : (1 : Int) = ((1 : Nat) : Int)) | exact (rfl : ((0 : Int) + 1) = ((1 : Nat) : Int))); (case hj => first | assumption | decide); (case hk => first | assumption | omega); (case hd => ktr_room); (case hu => ktr_units); k_whole); intro v' h' tk' F' N' o'; (try k_sweep); (k_dflt (subst o'))))
local macro_rules | `(tactic| walk_at "call ref") => `(tactic| (k_here; k_dflt (refine' gives_use (peek0_ok (rs := ?rs) ?hk) ?B ?F ?X ?N ?T ?K ?P ?hd ?hu ?_; (case B => k_asm); (case F => k_asm); (case X => k_asm); (case N => k_asm); (case T => k_asm); (case K => first | exact rfl | assumption); (case P => exact ⟨by first | with_reducible assumption | exact Toks.mono (by with_reducible assumption) (by first | exact fun _ h9 => h9 | exact fun _ h9 => .tail _ h9 | exact fun _ h9 => .tail _ (.tail _ h9) | exact fun _ h9 => .tail _ (.tail _ (.tail _ h9)) | exact fun _ h9 => .tail _ (.tail _ (.tail _ (.tail _ h9))) | exact fun _ h9 => .tail _ (.tail _ (.tail _ (.tail _ (.tail _ h9))))), by first | with_reducible assumption | exact ⟨_, _, _, _, _, _, by k_mem, by k_mem⟩⟩); (case hk => assumption); (case hd => ktr_room); (case hu => ktr_units); k_whole); intro v' h' tk' F' N' o'; (try k_sweep); (k_dflt ((rcases o' with ⟨r9, x9, q9, e9, ⟨d9, pa9, t91, t92, t93, t94, tk9, tw9, u91, u92, m91, m92, m93⟩⟩) <;> subst e9))))
local macro_rules | `(tactic| walk_at "call ref") => `(tactic| (k_here; k_dflt (refine' gives_use (is_reserved_at ?tk ?q ?w) ?B ?F ?X ?N ?T ?K ?P ?hd ?hu ?_; (case B => k_asm); (case F => k_asm); (case X => k_asm); (case N => k_asm); (case T => k_asm); (case K => first | exact rfl | assumption); (case P => exact True.intro); (case q => assumption); (case tk => with_reducible assumption); (case w => assumption); (case hd => ktr_room); (case hu => ktr_units); k_whole); intro v' h' tk' F' N' o'; (try k_sweep); (k_dflt (subst o'))))
section
variable {w : World} {p : Program} {loose : List Str} {mean : ExcName → Option Value} {mg mb : Str → Option Value}
theorem is_name_ok {rd tl : Addr} {k : Nat} {ts : List Addr} {rs : List Int} (hk : k ≤ 20) :
    Gives PySem.Challenge.rw_og0091_01.row.prog w p loose mean mg mb 20 (fun news => Toks w.params news tl ts rs ∧ RdIn w.params news rd tl k) 171 [.ref rd]
      (fun _ v => v = .bool (nameAt rs k)) := by
  unfold Gives
  intro dp un gd cn cs a ccd cl outer A₀ base h₀ L m news s Q E B F X N T hks hpre hd hu ret
  obtain ⟨TK, RD⟩ := hpre
  obtain ⟨dd, nd, t1, t2, t3, tk, m1, m2⟩ := id RD
  revert X
  w_top off
  k_fill
  intro X
  refine wpAny_call ?_
  k_dflt ktr_enter
  k_steps
  · exact ret _ _ _ (by assumption) (by assumption) (name_1 (by assumption))
  · exact ret _ _ _ (by assumption) (by assumption) (name_2 (by assumption))
theorem is_sign_ok {rd tl : Addr} {k : Nat} {ts : List Addr} {rs : List Int} {sg : Str} {tj : Tok} (hk : k ≤ 20) :
    Gives PySem.Challenge.rw_og0091_01.row.prog w p loose mean mg mb 20 (fun news => Toks w.params news tl ts rs ∧ RdIn w.params news rd tl k) 193 [.ref rd, .str sg tj]
      (fun _ v => v = .bool (kindIs rs k "sign" && worthIs rs k sg)) := by
  unfold Gives
  intro dp un gd cn cs a ccd cl outer A₀ base h₀ L m news s Q E B F X N T hks hpre hd hu ret
  obtain ⟨TK, RD⟩ := hpre
  obtain ⟨dd, nd, t1, t2, t3, tk, m1, m2⟩ := id RD
  revert X
  w_top off
  k_fill
  intro X
  refine wpAny_call ?_
  k_dflt ktr_enter
  k_steps
  · exact ret _ _ _ (by assumption) (by assumption) (sign_1 (by assumption) (by assumption))
  · exact ret _ _ _ (by assumption) (by assumption) (sign_2 (by assumption))
end
end Og91
end

/-! CTk -/
section
open Og91
set_option maxRecDepth 100000
set_option maxHeartbeats 8000000
namespace Og91
theorem tok_rest {P : Params} {rd dd tl nd : Addr} {t1 t2 t3 tk : Tok} {z : Int} {rest : List (Addr × Obj)} {x : Addr} {r : Int} {i : Nat} (h : TokAt P ((rd, instObj 245 dd) :: (dd, rdD P t1 t2 t3 tl z tk nd) :: rest) x r i) : TokAt P rest x r i := by
  obtain ⟨d, pa, t1, t2, t3, t4, tk, tw, u1, u2, a, b, c⟩ := h
  refine ⟨d, pa, t1, t2, t3, t4, tk, tw, u1, u2, ?_, ?_, ?_⟩
  · rcases List.mem_cons.mp a with e | a
    · exact absurd (congrArg (fun p : Addr × Obj => p.2.cls) e) (by simp)
    · rcases List.mem_cons.mp a with e | a
      · exact absurd (congrArg (fun p : Addr × Obj => p.2.cls) e) (by simp)
      · exact a
  · rcases List.mem_cons.mp b with e | b
    · exact absurd (congrArg (fun p : Addr × Obj => p.2.cls) e) (by simp)
    · rcases List.mem_cons.mp b with e | b
      · exact absurd (congrArg (fun p : Addr × Obj => match p.2.data with | .dict es _ => es.size | _ => 0) e) (by simp)
      · exact b
  · rcases List.mem_cons.mp c with e | c
    · exact absurd (congrArg (fun p : Addr × Obj => p.2.cls) e) (by simp)
    · rcases List.mem_cons.mp c with e | c
      · exact absurd (congrArg (fun p : Addr × Obj => p.2.cls) e) (by simp)
      · exact c
theorem tok_member {P : Params} {news : List (Addr × Obj)} {x : Addr} {r : Int} {i : Nat} {d pa : Addr} {t1 t2 t3 t4 tk tw u1 u2 : Tok} (a : (x, instObj 275 d) ∈ news) (b : (d, tkD P t1 t2 t3 t4 (kd r) (wd r) tk tw pa) ∈ news) (c : (pa, tupO #[.int 1 u1, .int ((i : Int) + 1) u2]) ∈ news) : TokAt P news x r i :=
  ⟨d, pa, t1, t2, t3, t4, tk, tw, u1, u2, a, b, c⟩
local macro_rules | `(tactic| walk_at "pad") => `(tactic| fail "no line")
local macro_rules | `(tactic| walk_at "call ref") => `(tactic| (k_here; k_dflt (refine' gives_use (peek_ok (rs := ?rs) ?hz ?hj ?hk) ?B ?F ?X ?N ?T ?K ?P ?hd ?hu ?_; (case B => k_asm); (case F => k_asm); (case X => k_asm); (case N => k_asm); (case T => k_asm); (case K => first | exact rfl | assumption); (case P => exact ⟨by first | with_reducible assumption | exact Toks.mono (by with_reducible assumption) (by first | exact fun _ h9 => h9 | exact fun _ h9 => .tail _ h9 | exact fun _ h9 => .tail _ (.tail _ h9) | exact fun _ h9 => .tail _ (.tail _ (.tail _ h9)) | exact fun _ h9 => .tail _ (.tail _ (.tail _ (.tail _ h9))) | exact fun _ h9 => .tail _ (.tail _ (.tail _ (.tail _ (.tail _ h9))))), by first | with_reducible assumption | exact ⟨_, _, _, _, _, _, by k_mem, by k_mem⟩⟩); (case hz => first | assumption | exact (rfl : (0 : Int) = ((0 : Nat) : Int)) | exact (rfl : (1 : Int) = ((1 : Nat) : Int)) | exact (rfl : ((0 : Int) + 1) = ((1 : Nat) : Int))); (case hj => first | assumption | decide); (case hk => first | assumption | omega); (case hd => ktr_room); (case hu => ktr_units); k_whole); intro v' h' tk' F' N' o'; (try k_sweep); (k_dflt ((rcases o' with ⟨r9, x9, q9, e9, ⟨d9, pa9, t91, t92, t93, t94, tk9, tw9, u91, u92, m91, m92, m93⟩⟩ | ⟨q9, e9⟩) <;> subst e9))))
local macro_rules | `(tactic| walk_at "call ref") => `(tactic| (k_here; k_dflt (refine' gives_use (peek_kind (rs := ?rs) ?hz ?hj ?hk ?hw) ?B ?F ?X ?N ?T ?K ?P ?hd ?hu ?_; (case B => k_asm); (case F => k_asm); (case X => k_asm); (case N => k_asm); (case T => k_asm); (case K => first | exact rfl | assumption); (case P => exact ⟨by first | with_reducible assumption | exact Toks.mono (by with_reducible assumption) (by first | exact fun _ h9 => h9 | exact fun _ h9 => .tail _ h9 | exact fun _ h9 => .tail _ (.tail _ h9) | exact fun _ h9 => .tail _ (.tail _ (.tail _ h9)) | exact fun _ h9 => .tail _ (.tail _ (.tail _ (.tail _ h9))) | exact fun _ h9 => .tail _ (.tail _ (.tail _ (.tail _ (.tail _ h9))))), by first | with_reducible assumption | exact ⟨_, _, _, _, _, _, by k_mem, by k_mem⟩⟩); (case hz => first | assumption | exact (rfl : (0 : Int) = ((0 : Nat) : Int)) | exact (rfl : (1 : Int) = ((1 : Nat) : Int)) | exact (rfl : ((0 : Int) + 1) = ((1 : Nat) : Int))); (case hj => first | assumption | decide); (case hk => first | assumption | omega); (case hw => assumption); (case hd => ktr_room); (case hu => ktr_units); k_whole); intro v' h' tk' F' N' o'; (try k_sweep); (k_dflt ((rcases o' with ⟨r9, x9, q9, e9, ⟨d9, pa9, t91, t92, t93, t94, tk9, tw9, u91, u92, m91, m92, m93⟩⟩) <;> subst e9))))
local macro_rules | `(tactic| walk_at "call ref") => `(tactic| (k_here; k_dflt (refine' gives_use (is_kind_ok (rs := ?rs) ?hz ?hj ?hk) ?B ?F ?X ?N ?T ?K ?P ?hd ?hu ?_; (case B => k_asm); (case F => k_asm); (case X => k_asm); (case N => k_asm); (case T => k_asm); (case K => first | exact rfl | assumption); (case P => exact ⟨by first | with_reducible assumption | exact Toks.mono (by with_reducible assumption) (by first | exact fun _ h9 => h9 | exact fun _ h9 => .tail _ h9 | exact fun _ h9 => .tail _ (.tail _ h9) | exact fun _ h9 => .tail _ (.tail _ (.tail _ h9)) | exact fun _ h9 => .tail _ (.tail _ (.tail _ (.tail _ h9))) | exact fun _ h9 => .tail _ (.tail _ (.tail _ (.tail _ (.tail _ h9))))), by first | with_reducible assumption | exact ⟨_, _, _, _, _, _, by k_mem, by k_mem⟩⟩); (case hz => first | assumption | exact (rfl : (0 : Int) = ((0 : Nat) : Int)) | exact (rfl : (1 : Int) = ((1 : Nat) : Int)) | exact (rfl : ((0 : Int) + 1) = ((1 : Nat) : Int))); (case hj => first | assumption | decide); (case hk => first | assumption | omega); (case hd => ktr_room); (case hu => ktr_units); k_whole); intro v' h' tk' F' N' o'; (try k_sweep); (k_dflt (subst o'))))
local macro_rules | `(tactic| walk_at "call ref") => `(tactic| (k_here; k_dflt (refine' gives_use (peek0_ok (rs := ?rs) ?hk) ?B ?F ?X ?N ?T ?K ?P ?hd ?hu ?_; (case B => k_asm); (case F => k_asm); (case X => k_asm); (case N => k_asm); (case T => k_asm); (case K => first | exact rfl | assumption); (case P => exact ⟨by first | with_reducible assumption | exact Toks.mono (by with_reducible assumption) (by first | exact fun _ h9 => h9 | exact fun _ h9 => .tail _ h9 | exact fun _ h9 => .tail _ (.tail _ h9) | exact fun _ h9 => .tail _ (.tail _ (.tail _ h9)) | exact fun _ h9 => .tail _ (.tail _ (.tail _ (.tail _ h9))) | exact fun _ h9 => .tail _ (.tail _ (.tail _ (.tail _ (.tail _ h9))))), by first | with_reducible assumption | exact ⟨_, _, _, _, _, _, by k_mem, by k_mem⟩⟩); (case hk => assumption); (case hd => ktr_room); (case hu => ktr_units); k_whole); intro v' h' tk' F' N' o'; (try k_sweep); (k_dflt ((rcases o' with ⟨r9, x9, q9, e9, ⟨d9, pa9, t91, t92, t93, t94, tk9, tw9, u91, u92, m91, m92, m93⟩⟩) <;> subst e9))))
local macro_rules | `(tactic| walk_at "call ref") => `(tactic| (k_here; k_dflt (refine' gives_use (is_reserved_at ?tk ?q ?w) ?B ?F ?X ?N ?T ?K ?P ?hd ?hu ?_; (case B => k_asm); (case F => k_asm); (case X => k_asm); (case N => k_asm); (case T => k_asm); (case K => first | exact rfl | assumption); (case P => exact True.intro); (case q => assumption); (case tk => with_reducible assumption); (case w => assumption); (case hd => ktr_room); (case hu => ktr_units); k_whole); intro v' h' tk' F' N' o'; (try k_sweep); (k_dflt (subst o'))))
local macro_rules | `(tactic| walk_at "call ref") => `(tactic| (k_here; k_dflt (refine' gives_use (is_name_ok (rs := ?rs) ?hk) ?B ?F ?X ?N ?T ?K ?P ?hd ?hu ?_; (case B => k_asm); (case F => k_asm); (case X => k_asm); (case N => k_asm); (case T => k_asm); (case K => first | exact rfl | assumption); (case P => exact ⟨by first | with_reducible assumption | exact Toks.mono (by with_reducible assumption) (by first | exact fun _ h9 => h9 | exact fun _ h9 => .tail _ h9 | exact fun _ h9 => .tail _ (.tail _ h9) | exact fun _ h9 => .tail _ (.tail _ (.tail _ h9)) | exact fun _ h9 => .tail _ (.tail _ (.tail _ (.tail _ h9))) | exact fun _ h9 => .tail _ (.tail _ (.tail _ (.tail _ (.tail _ h9))))), by first | with_reducible assumption | exact ⟨_, _, _, _, _, _, by k_mem, by k_mem⟩⟩); (case hk => first | assumption | omega); (case hd => ktr_room); (case hu => ktr_units); k_whole); intro v' h' tk' F' N' o'; (try k_sweep); (k_dflt (subst o'))))
local macro_rules | `(tactic| walk_at "call ref") => `(tactic| (k_here; k_dflt (refine' gives_use (is_sign_ok (rs := ?rs) ?hk) ?B ?F ?X ?N ?T ?K ?P ?hd ?hu ?_; (case B => k_asm); (case F => k_asm); (case X => k_asm); (case N => k_asm); (case T => k_asm); (case K => first | exact rfl | assumption); (case P => exact ⟨by first | with_reducible assumption | exact Toks.mono (by with_reducible assumption) (by first | exact fun _ h9 => h9 | exact fun _ h9 => .tail _ h9 | exact fun _ h9 => .tail _ (.tail _ h9) | exact fun _ h9 => .tail _ (.tail _ (.tail _ h9)) | exact fun _ h9 => .tail _ (.tail _ (.tail _ (.tail _ h9))) | exact fun _ h9 => .tail _ (.tail _ (.tail _ (.tail _ (.tail _ h9))))), by first | with_reducible assumption | exact ⟨_, _, _, _, _, _, by k_mem, by k_mem⟩⟩); (case hk => first | assumption | omega); (case hd => ktr_room); (case hu => ktr_units); k_whole); intro v' h' tk' F' N' o'; (try k_sweep); (k_dflt (subst o'))))
local macro_rules | `(tactic| k_all) => `(tactic| with_reducible assumption)
section
variable {w : World} {p : Program} {loose : List Str} {mean : ExcName → Option Value} {mg mb : Str → Option Value}
theorem take_ok2 {rs : List Int} {k : Nat} (hk : k < rs.length) :
    Steps w p loose mean mg mb 15 rs k 120 [] (fun rest v k' => k' = k + 1 ∧ ∃ r x, rs[k]? = some r ∧ v = .ref x ∧ TokAt w.params rest x r k) (fun _ => False) := by
  unfold Steps
  intro dp un gd cn cs a ccd cl outer A₀ base h₀ L m rd dd nd tl t1 t2 t3 tk ts rest s Q E B F X N T hks hne off TK hd hu ret exn
  have RD : RdIn w.params ((rd, instObj 245 dd) :: (dd, rdD w.params t1 t2 t3 tl ((k : Nat) : Int) tk nd) :: rest) rd tl k := ⟨dd, nd, t1, t2, t3, tk, .head _, .tail _ (.head _)⟩
  revert X
  w_top off
  k_fill
  intro X
  refine wpAny_call ?_
  k_dflt ktr_enter
  k_steps
  exact ret _ (k + 1) _ _ _ (by assumption) (by assumption) ⟨rfl, _, _, by assumption, rfl, tok_rest (tok_member (by assumption) (by assumption) (by assumption))⟩
theorem skip_sign_yes {rs : List Int} {k : Nat} {sg : Str} {tj : Tok} (hk : k ≤ 20) (hs : (kindIs rs k "sign" && worthIs rs k sg) = true) :
    Steps w p loose mean mg mb 25 rs k 200 [.str sg tj] (fun rest v k' => v = .bool true ∧ k' = k + 1) (fun _ => False) := by
  unfold Steps
  intro dp un gd cn cs a ccd cl outer A₀ base h₀ L m rd dd nd tl t1 t2 t3 tk ts rest s Q E B F X N T hks hne off TK hd hu ret exn
  have RD : RdIn w.params ((rd, instObj 245 dd) :: (dd, rdD w.params t1 t2 t3 tl ((k : Nat) : Int) tk nd) :: rest) rd tl k := ⟨dd, nd, t1, t2, t3, tk, .head _, .tail _ (.head _)⟩
  revert X
  w_top off
  k_fill
  intro X
  refine wpAny_call ?_
  k_dflt ktr_enter
  k_steps
  exact ret _ (k + 1) _ _ _ (by assumption) (by assumption) ⟨rfl, rfl⟩
theorem skip_sign_no {rs : List Int} {k : Nat} {sg : Str} {tj : Tok} (hk : k ≤ 20) (hs : (kindIs rs k "sign" && worthIs rs k sg) = false) :
    Steps w p loose mean mg mb 25 rs k 200 [.str sg tj] (fun rest v k' => v = .bool false ∧ k' = k) (fun _ => False) := by
  unfold Steps
  intro dp un gd cn cs a ccd cl outer A₀ base h₀ L m rd dd nd tl t1 t2 t3 tk ts rest s Q E B F X N T hks hne off TK hd hu ret exn
  have RD : RdIn w.params ((rd, instObj 245 dd) :: (dd, rdD w.params t1 t2 t3 tl ((k : Nat) : Int) tk nd) :: rest) rd tl k := ⟨dd, nd, t1, t2, t3, tk, .head _, .tail _ (.head _)⟩
  revert X
  w_top off
  k_fill
  intro X
  refine wpAny_call ?_
  k_dflt ktr_enter
  k_steps
  exact ret _ k _ _ _ (by assumption) (by assumption) ⟨rfl, rfl⟩
end
end Og91
end

/-! Raise -/
section
open Og91
set_option maxRecDepth 100000
set_option maxHeartbeats 4000000
namespace Og91
def FaultUp (P : Params) (E : Value → Shared → Prop) (v : Value) (s : Shared) : Prop := ∃ e t D, v = .ref e ∧ (tp.heap_1 P).In s.heap ∧ s.heap.get? e = some (gfE t D) ∧ E (.ref e) s
section
variable {P : Params} {M : Model} {A : Around} {E : Value → Shared → Prop} {s : Shared} {env : Env}
theorem raise_fault {g : Heap} {x : Expr} {pos : Pos} {Q : Flow → Shared → Prop} (_ : (tp.heap_1 P).In g) (hh : A.handled = none) (h : wpAny M A (eval x env) (FaultUp P E) E s) : wpAny M A (exec (.Raise (some x) none pos) env) Q E s := by
  rw [arm_exec_Raise]
  refine wpAny_bind (wpAny_standAt ?_)
  unfold raiseStmt
  simp only [evalOpt, Option.map]
  refine wpAny_bind (wpAny_bind (wpAny_mono h (fun v s₁ h₁ => wpAny_bind (wpAny_standAt (wpAny_pure ?_))) fun _ _ x => x))
  obtain ⟨e, t, D, rfl, X, he, hE⟩ := h₁
  obtain ⟨hp, g, d, tk, os⟩ := s₁
  have hC := gf_cls X
  have hcB : (Value.ref 67 :: gfMro).contains (.type "BaseException") = true := gf_has (by decide +kernel)
  repeat (first | with_reducible refine wpAny_loadPart_at he ?_ | with_reducible refine wpAny_loadPart_at hC ?_ | (with_reducible refine wpAny_isSubtype_exc hC ?_; rw [hcB]) | ((show wpAny _ _ (isSubtype (.ref 67) _) _ _ _); refine wpAny_isSubtype_exc hC ?_; rw [hcB]) | wp_step)
  exact wpAny_raiseNew_none hh hE
end
end Og91
end

/-! CNm -/
section
open Og91
set_option maxRecDepth 100000
set_option maxHeartbeats 8000000
namespace Og91
local macro_rules | `(tactic| walk_at "call ref") => `(tactic| (k_here; k_dflt (refine' gives_use (peek_ok (rs := ?rs) ?hz ?hj ?hk) ?B ?F ?X ?N ?T ?K ?P ?hd ?hu ?_; (case B => k_asm); (case F => k_asm); (case X => k_asm); (case N => k_asm); (case T => k_asm); (case K => first | exact rfl | assumption); (case P => exact ⟨by first | with_reducible assumption | exact Toks.mono (by with_reducible assumption) (by first | exact fun _ h9 => h9 | exact fun _ h9 => .tail _ h9 | exact fun _ h9 => .tail _ (.tail _ h9) | exact fun _ h9 => .tail _ (.tail _ (.tail _ h9)) | exact fun _ h9 => .tail _ (.tail _ (.tail _ (.tail _ h9))) | exact fun _ h9 => .tail _ (.tail _ (.tail _ (.tail _ (.tail _ h9))))), by first | with_reducible assumption | exact ⟨_, _, _, _, _, _, by k_mem, by k_mem⟩⟩); (case hz => first | assumption | exact (rfl : (0 : Int) = ((0 : Nat) : Int)) | exact (rfl : (1 : Int) = ((1 : Nat) : Int)) | exact (rfl : ((0 : Int) + 1) = ((1 : Nat) : Int))); (case hj => first | assumption | decide); (case hk => first | assumption | omega); (case hd => ktr_room); (case hu => ktr_units); k_whole); intro v' h' tk' F' N' o'; (try k_sweep); (k_dflt ((rcases o' with ⟨r9, x9, q9, e9, ⟨d9, pa9, t91, t92, t93, t94, tk9, tw9, u91, u92, m91, m92, m93⟩⟩ | ⟨q9, e9⟩) <;> subst e9))))
local macro_rules | `(tactic| walk_at "call ref") => `(tactic| (k_here; k_dflt (refine' gives_use (peek_kind (rs := ?rs) ?hz ?hj ?hk ?hw) ?B ?F ?X ?N ?T ?K ?P ?hd ?hu ?_; (case B => k_asm); (case F => k_asm); (case X => k_asm); (case N => k_asm); (case T => k_asm); (case K => first | exact rfl | assumption); (case P => exact ⟨by first | with_reducible assumption | exact Toks.mono (by with_reducible assumption) (by first | exact fun _ h9 => h9 | exact fun _ h9 => .tail _ h9 | exact fun _ h9 => .tail _ (.tail _ h9) | exact fun _ h9 => .tail _ (.tail _ (.tail _ h9)) | exact fun _ h9 => .tail _ (.tail _ (.tail _ (.tail _ h9))) | exact fun _ h9 => .tail _ (.tail _ (.tail _ (.tail _ (.tail _ h9))))), by first | with_reducible assumption | exact ⟨_, _, _, _, _, _, by k_mem, by k_mem⟩⟩); (case hz => first | assumption | exact (rfl : (0 : Int) = ((0 : Nat) : Int)) | exact (rfl : (1 : Int) = ((1 : Nat) : Int)) | exact (rfl : ((0 : Int) + 1) = ((1 : Nat) : Int))); (case hj => first | assumption | decide); (case hk => first | assumption | omega); (case hw => assumption); (case hd => ktr_room); (case hu => ktr_units); k_whole); intro v' h' tk' F' N' o'; (try k_sweep); (k_dflt ((rcases o' with ⟨r9, x9, q9, e9, ⟨d9, pa9, t91, t92, t93, t94, tk9, tw9, u91, u92, m91, m92, m93⟩⟩) <;> subst e9))))
local macro_rules | `(tactic| walk_at "call ref") => `(tactic| (k_here; k_dflt (refine' gives_use (is_kind_ok (rs := ?rs) ?hz ?hj ?hk) ?B ?F ?X ?N ?T ?K ?P ?hd ?hu ?_; (case B => k_asm); (case F => k_asm); (case X => k_asm); (case N => k_asm); (case T => k_asm); (case K => first | exact rfl | assumption); (case P => exact ⟨by first | with_reducible assumption | exact Toks.mono (by with_reducible assumption) (by first | exact fun _ h9 => h9 | exact fun _ h9 => .tail _ h9 | exact fun _ h9 => .tail _ (.tail _ h9) | exact fun _ h9 => .tail _ (.tail _ (.tail _ h9)) | exact fun _ h9 => .tail _ (.tail _ (.tail _ (.tail _ h9))) | exact fun _ h9 => .tail _ (.tail _ (.tail _ (.tail _ (.tail _ h9))))), by first | with_reducible assumption | exact ⟨_, _, _, _, _, _, by k_mem, by k_mem⟩⟩); (case hz => first | assumption | exact (rfl : (0 : Int) = ((0 : Nat) : Int)) | exact (rfl : (1 : Int) = ((1 : Nat) : Int)) | exact (rfl : ((0 : Int) + 1) = ((1 : Nat) : Int))); (case hj => first | assumption | decide); (case hk => first | assumption | omega); (case hd => ktr_room); (case hu => ktr_units); k_whole); intro v' h' tk' F' N' o'; (try k_sweep); (k_dflt (subst o'))))
local macro_rules | `(tactic| walk_at "call ref") => `(tactic| (k_here; k_dflt (refine' gives_use (peek0_ok (rs := ?rs) ?hk) ?B ?F ?X ?N ?T ?K ?P ?hd ?hu ?_; (case B => k_asm); (case F => k_asm); (case X => k_asm); (case N => k_asm); (case T => k_asm); (case K => first | exact rfl | assumption); (case P => exact ⟨by first | with_reducible assumption | exact Toks.mono (by with_reducible assumption) (by first | exact fun _ h9 => h9 | exact fun _ h9 => .tail _ h9 | exact fun _ h9 => .tail _ (.tail _ h9) | exact fun _ h9 => .tail _ (.tail _ (.tail _ h9)) | exact fun _ h9 => .tail _ (.tail _ (.tail _ (.tail _ h9))) | exact fun _ h9 => .tail _ (.tail _ (.tail _ (.tail _ (.tail _ h9))))), by first | with_reducible assumption | exact ⟨_, _, _, _, _, _, by k_mem, by k_mem⟩⟩); (case hk => assumption); (case hd => ktr_room); (case hu => ktr_units); k_whole); intro v' h' tk' F' N' o'; (try k_sweep); (k_dflt ((rcases o' with ⟨r9, x9, q9, e9, ⟨d9, pa9, t91, t92, t93, t94, tk9, tw9, u91, u92, m91, m92, m93⟩⟩) <;> subst e9))))
local macro_rules | `(tactic| walk_at "call ref") => `(tactic| (k_here; k_dflt (refine' gives_use (is_reserved_at ?tk ?q ?w) ?B ?F ?X ?N ?T ?K ?P ?hd ?hu ?_; (case B => k_asm); (case F => k_asm); (case X => k_asm); (case N => k_asm); (case T => k_asm); (case K => first | exact rfl | assumption); (case P => exact True.intro); (case q => assumption); (case tk => with_reducible assumption); (case w => assumption); (case hd => ktr_room); (case hu => ktr_units); k_whole); intro v' h' tk' F' N' o'; (try k_sweep); (k_dflt (subst o'))))
local macro_rules | `(tactic| walk_at "call ref") => `(tactic| (k_here; k_dflt (refine' gives_use (is_name_ok (rs := ?rs) ?hk) ?B ?F ?X ?N ?T ?K ?P ?hd ?hu ?_; (case B => k_asm); (case F => k_asm); (case X => k_asm); (case N => k_asm); (case T => k_asm); (case K => first | exact rfl | assumption); (case P => exact ⟨by first | with_reducible assumption | exact Toks.mono (by with_reducible assumption) (by first | exact fun _ h9 => h9 | exact fun _ h9 => .tail _ h9 | exact fun _ h9 => .tail _ (.tail _ h9) | exact fun _ h9 => .tail _ (.tail _ (.tail _ h9)) | exact fun _ h9 => .tail _ (.tail _ (.tail _ (.tail _ h9))) | exact fun _ h9 => .tail _ (.tail _ (.tail _ (.tail _ (.tail _ h9))))), by first | with_reducible assumption | exact ⟨_, _, _, _, _, _, by k_mem, by k_mem⟩⟩); (case hk => first | assumption | omega); (case hd => ktr_room); (case hu => ktr_units); k_whole); intro v' h' tk' F' N' o'; (try k_sweep); (k_dflt (subst o'))))
local macro_rules | `(tactic| walk_at "call ref") => `(tactic| (k_here; k_dflt (refine' gives_use (is_sign_ok (rs := ?rs) ?hk) ?B ?F ?X ?N ?T ?K ?P ?hd ?hu ?_; (case B => k_asm); (case F => k_asm); (case X => k_asm); (case N => k_asm); (case T => k_asm); (case K => first | exact rfl | assumption); (case P => exact ⟨by first | with_reducible assumption | exact Toks.mono (by with_reducible assumption) (by first | exact fun _ h9 => h9 | exact fun _ h9 => .tail _ h9 | exact fun _ h9 => .tail _ (.tail _ h9) | exact fun _ h9 => .tail _ (.tail _ (.tail _ h9)) | exact fun _ h9 => .tail _ (.tail _ (.tail _ (.tail _ h9))) | exact fun _ h9 => .tail _ (.tail _ (.tail _ (.tail _ (.tail _ h9))))), by first | with_reducible assumption | exact ⟨_, _, _, _, _, _, by k_mem, by k_mem⟩⟩); (case hk => first | assumption | omega); (case hd => ktr_room); (case hu => ktr_units); k_whole); intro v' h' tk' F' N' o'; (try k_sweep); (k_dflt (subst o'))))
local macro_rules | `(tactic| k_all) => `(tactic| with_reducible assumption)
local macro_rules | `(tactic| walk_at "call ref") => `(tactic| (k_here; k_dflt (refine' steps_use (take_ok2 (rs := ?rs) ?hk) ?B ?F ?X ?N ?hz ?T ?K ?ne ?off ?TK ?hd ?hu ?_ ?exn; (case B => k_asm); (case F => k_asm); (case X => k_asm); (case N => k_asm); (case hz => first | exact rfl | omega); (case T => k_asm); (case K => first | exact rfl | assumption); (case ne => assumption); (case off => assumption); (case TK => with_reducible assumption); (case hk => assumption); (case hd => ktr_room); (case hu => ktr_units); (case exn => exact fun _ _ _ _ _ _ _ _ _ _ _ _ _ _ _ _ _ _ hx => hx.elim); k_whole); intro v' k' h' tk' tk2' F' N' o'; (try k_sweep); (k_dflt ((rcases o' with ⟨ek, r9, x9, q9, e9, ⟨d9, pa9, t91, t92, t93, t94, tk9, tw9, u91, u92, m91, m92, m93⟩⟩); subst ek e9))))
local macro_rules | `(tactic| walk_at "call ref") => `(tactic| (k_here; k_dflt (refine' steps_use (skip_sign_yes (rs := ?rs) ?hk ?hs) ?B ?F ?X ?N ?hz ?T ?K ?ne ?off ?TK ?hd ?hu ?_ ?exn; (case B => k_asm); (case F => k_asm); (case X => k_asm); (case N => k_asm); (case hz => first | exact rfl | omega); (case T => k_asm); (case K => first | exact rfl | assumption); (case ne => assumption); (case off => assumption); (case TK => with_reducible assumption); (case hk => assumption); (case hs => assumption); (case hd => ktr_room); (case hu => ktr_units); (case exn => exact fun _ _ _ _ _ _ _ _ _ _ _ _ _ _ _ _ _ _ hx => hx.elim); k_whole); intro v' k' h' tk' tk2' F' N' o'; (try k_sweep); (k_dflt ((rcases o' with ⟨e9, ek⟩); subst ek e9))))
local macro_rules | `(tactic| walk_at "call ref") => `(tactic| (k_here; k_dflt (refine' steps_use (skip_sign_no (rs := ?rs) ?hk ?hs) ?B ?F ?X ?N ?hz ?T ?K ?ne ?off ?TK ?hd ?hu ?_ ?exn; (case B => k_asm); (case F => k_asm); (case X => k_asm); (case N => k_asm); (case hz => first | exact rfl | omega); (case T => k_asm); (case K => first | exact rfl | assumption); (case ne => assumption); (case off => assumption); (case TK => with_reducible assumption); (case hk => assumption); (case hs => assumption); (case hd => ktr_room); (case hu => ktr_units); (case exn => exact fun _ _ _ _ _ _ _ _ _ _ _ _ _ _ _ _ _ _ hx => hx.elim); k_whole); intro v' k' h' tk' tk2' F' N' o'; (try k_sweep); (k_dflt ((rcases o' with ⟨e9, ek⟩); subst ek e9))))
local macro_rules | `(tactic| walk_at "exec Raise some none") => `(tactic| (k_here; k_dflt (refine' raise_fault ?X ?h ?_; (case X => k_asm); (case h => exact rfl))))
local macro_rules | `(tactic| walk_at "call ref") => `(tactic| (k_here; k_dflt (refine' fault_ok (rs := ?rs) ?B ?F ?X ?N ?T ?K ?TK ?RD ?hne ?hd ?hu ?_; (case B => k_asm); (case F => k_asm); (case X => k_asm); (case N => k_asm); (case T => k_asm); (case K => first | exact rfl | assumption); (case TK => first | with_reducible assumption | exact Toks.mono (by with_reducible assumption) (by first | exact fun _ h9 => h9 | exact fun _ h9 => .tail _ h9 | exact fun _ h9 => .tail _ (.tail _ h9) | exact fun _ h9 => .tail _ (.tail _ (.tail _ h9)) | exact fun _ h9 => .tail _ (.tail _ (.tail _ (.tail _ h9))) | exact fun _ h9 => .tail _ (.tail _ (.tail _ (.tail _ (.tail _ h9)))))); (case RD => first | with_reducible assumption | exact ⟨_, _, _, _, _, _, by k_mem, by k_mem⟩); (case hne => assumption); (case hd => ktr_room); (case hu => ktr_units); k_whole); intro e8 D8 t8 w81 w82 wv8 pa8 u81 u82 h8 tk8 F8 N8 o8 m8; (try k_sweep)))
theorem nameAt_lt {rs : List Int} {k : Nat} (h : nameAt rs k = true) : k < rs.length := by
  unfold nameAt at h
  cases q : rs[k]? with
  | none => rw [q] at h; cases h
  | some r => exact (List.getElem?_eq_some_iff.mp q).1
theorem pair_rest {P : Params} {rd dd tl nd : Addr} {t1 t2 t3 tk u1 u2 : Tok} {z q : Int} {rest : List (Addr × Obj)} {pa : Addr} (c : (pa, tupO #[.int 1 u1, .int q u2]) ∈ (rd, instObj 245 dd) :: (dd, rdD P t1 t2 t3 tl z tk nd) :: rest) : (pa, tupO #[.int 1 u1, .int q u2]) ∈ rest := by
  rcases List.mem_cons.mp c with e | c
  · exact absurd (congrArg (fun p : Addr × Obj => p.2.cls) e) (by simp)
  · rcases List.mem_cons.mp c with e | c
    · exact absurd (congrArg (fun p : Addr × Obj => p.2.cls) e) (by simp)
    · exact c
section
variable {w : World} {p : Program} {loose : List Str} {mean : ExcName → Option Value} {mg mb : Str → Option Value}
theorem name_yes {rs : List Int} {k : Nat} (hk : k ≤ 20) (hn : nameAt rs k = true) :
    Steps w p loose mean mg mb 30 rs k 178 [] (fun rest v k' => k' = k + 1 ∧ ∃ r t, rs[k]? = some r ∧ v = .str (wd r) t) (fun _ => False) := by
  unfold Steps
  intro dp un gd cn cs a ccd cl outer A₀ base h₀ L m rd dd nd tl t1 t2 t3 tk ts rest s Q E B F X N T hks hne off TK hd hu ret exn
  have RD : RdIn w.params ((rd, instObj 245 dd) :: (dd, rdD w.params t1 t2 t3 tl ((k : Nat) : Int) tk nd) :: rest) rd tl k := ⟨dd, nd, t1, t2, t3, tk, .head _, .tail _ (.head _)⟩
  revert X
  w_top off
  k_fill
  intro X
  refine wpAny_call ?_
  k_dflt ktr_enter
  have hlt := nameAt_lt hn
  k_steps
  exact ret _ (k + 1) _ _ _ (by assumption) (by assumption) ⟨rfl, _, _, by assumption, rfl⟩
theorem name_no {rs : List Int} {k : Nat} (hk : k ≤ 20) (hn : nameAt rs k = false) (hp : 0 < rs.length) :
    Steps w p loose mean mg mb 30 rs k 178 [] (fun _ _ _ => False) (fun q => q = min k (rs.length - 1)) := by
  unfold Steps
  intro dp un gd cn cs a ccd cl outer A₀ base h₀ L m rd dd nd tl t1 t2 t3 tk ts rest s Q E B F X N T hks hne off TK hd hu ret exn
  have RD : RdIn w.params ((rd, instObj 245 dd) :: (dd, rdD w.params t1 t2 t3 tl ((k : Nat) : Int) tk nd) :: rest) rd tl k := ⟨dd, nd, t1, t2, t3, tk, .head _, .tail _ (.head _)⟩
  revert X
  w_top off
  k_fill
  intro X
  refine wpAny_call ?_
  k_dflt ktr_enter
  k_steps
  refine ⟨_, _, _, rfl, Frag.In.keeps (by assumption) (Fr.keep (by assumption)), ((by assumption : News _ _ _ _) _ (.head _)).1, ?_⟩
  refine leave_faultS (by assumption) (by assumption) (by assumption) (by assumption) fun h9 R9 U9 => ?_
  exact exn _ _ _ _ _ _ _ _ _ _ _ _ _ _ (by assumption) U9 R9 (pair_rest (by assumption)) rfl
theorem need_yes {rs : List Int} {k : Nat} {sg : Str} {tj : Tok} (hk : k ≤ 20) (hs : (kindIs rs k "sign" && worthIs rs k sg) = true) :
    Steps w p loose mean mg mb 35 rs k 207 [.str sg tj] (fun rest v k' => v = .none ∧ k' = k + 1) (fun _ => False) := by
  unfold Steps
  intro dp un gd cn cs a ccd cl outer A₀ base h₀ L m rd dd nd tl t1 t2 t3 tk ts rest s Q E B F X N T hks hne off TK hd hu ret exn
  have RD : RdIn w.params ((rd, instObj 245 dd) :: (dd, rdD w.params t1 t2 t3 tl ((k : Nat) : Int) tk nd) :: rest) rd tl k := ⟨dd, nd, t1, t2, t3, tk, .head _, .tail _ (.head _)⟩
  revert X
  w_top off
  k_fill
  intro X
  refine wpAny_call ?_
  k_dflt ktr_enter
  k_steps
  exact ret _ (k + 1) _ _ _ (by assumption) (by assumption) ⟨rfl, rfl⟩
theorem need_no {rs : List Int} {k : Nat} {sg : Str} {tj : Tok} (hk : k ≤ 20) (hs : (kindIs rs k "sign" && worthIs rs k sg) = false) (hp : 0 < rs.length) (hsg : sg.length ≤ 10) :
    Steps w p loose mean mg mb 35 rs k 207 [.str sg tj] (fun _ _ _ => False) (fun q => q = min k (rs.length - 1)) := by
  unfold Steps
  intro dp un gd cn cs a ccd cl outer A₀ base h₀ L m rd dd nd tl t1 t2 t3 tk ts rest s Q E B F X N T hks hne off TK hd hu ret exn
  have RD : RdIn w.params ((rd, instObj 245 dd) :: (dd, rdD w.params t1 t2 t3 tl ((k : Nat) : Int) tk nd) :: rest) rd tl k := ⟨dd, nd, t1, t2, t3, tk, .head _, .tail _ (.head _)⟩
  revert X
  w_top off
  k_fill
  intro X
  refine wpAny_call ?_
  k_dflt ktr_enter
  k_steps
  refine ⟨_, _, _, rfl, Frag.In.keeps (by assumption) (Fr.keep (by assumption)), ((by assumption : News _ _ _ _) _ (.head _)).1, ?_⟩
  refine leave_faultS (by assumption) (by assumption) (by assumption) (by assumption) fun h9 R9 U9 => ?_
  exact exn _ _ _ _ _ _ _ _ _ _ _ _ _ _ (by assumption) U9 R9 (pair_rest (by assumption)) rfl
end
end Og91
end

/-! CSkip -/
section
open Og91
set_option maxRecDepth 100000
set_option maxHeartbeats 8000000
namespace Og91
local macro_rules | `(tactic| walk_at "call ref") => `(tactic| (k_here; k_dflt (refine' gives_use (is_word_ok (rs := ?rs) ?hk) ?B ?F ?X ?N ?T ?K ?P ?hd ?hu ?_; (case B => k_asm); (case F => k_asm); (case X => k_asm); (case N => k_asm); (case T => k_asm); (case K => first | exact rfl | assumption); (case P => exact ⟨by first | with_reducible assumption | exact Toks.mono (by with_reducible assumption) (by first | exact fun _ h9 => h9 | exact fun _ h9 => .tail _ h9 | exact fun _ h9 => .tail _ (.tail _ h9) | exact fun _ h9 => .tail _ (.tail _ (.tail _ h9)) | exact fun _ h9 => .tail _ (.tail _ (.tail _ (.tail _ h9))) | exact fun _ h9 => .tail _ (.tail _ (.tail _ (.tail _ (.tail _ h9))))), by first | with_reducible assumption | exact ⟨_, _, _, _, _, _, by k_mem, by k_mem⟩⟩); (case hk => first | assumption | omega); (case hd => ktr_room); (case hu => ktr_units); k_whole); intro v' h' tk' F' N' o'; (try k_sweep); (k_dflt (subst o'))))
local macro_rules | `(tactic| k_all) => `(tactic| with_reducible assumption)
local macro_rules | `(tactic| walk_at "call ref") => `(tactic| (k_here; k_dflt (refine' steps_use (take_ok2 (rs := ?rs) ?hk) ?B ?F ?X ?N ?hz ?T ?K ?ne ?off ?TK ?hd ?hu ?_ ?exn; (case B => k_asm); (case F => k_asm); (case X => k_asm); (case N => k_asm); (case hz => first | exact rfl | omega); (case T => k_asm); (case K => first | exact rfl | assumption); (case ne => assumption); (case off => assumption); (case TK => with_reducible assumption); (case hk => first | assumption | omega); (case hd => ktr_room); (case hu => ktr_units); (case exn => exact fun _ _ _ _ _ _ _ _ _ _ _ _ _ _ _ _ _ _ hx => hx.elim); k_whole); intro v' k' h' tk' tk2' F' N' o'; (try k_sweep); (k_dflt ((rcases o' with ⟨ek, r9, x9, q9, e9, ⟨d9, pa9, t91, t92, t93, t94, tk9, tw9, u91, u92, m91, m92, m93⟩⟩); subst ek e9))))
local macro_rules | `(tactic| walk_at "call ref") => `(tactic| (k_here; k_dflt (refine' steps_use (name_yes (rs := ?rs) ?hk ?hn) ?B ?F ?X ?N ?hz ?T ?K ?ne ?off ?TK ?hd ?hu ?_ ?exn; (case B => k_asm); (case F => k_asm); (case X => k_asm); (case N => k_asm); (case hz => first | exact rfl | omega); (case T => k_asm); (case K => first | exact rfl | assumption); (case ne => assumption); (case off => assumption); (case TK => with_reducible assumption); (case hk => omega); (case hn => assumption); (case hd => ktr_room); (case hu => ktr_units); (case exn => exact fun _ _ _ _ _ _ _ _ _ _ _ _ _ _ _ _ _ _ hx => hx.elim); k_whole); intro v' k' h' tk' tk2' F' N' o'; (try k_sweep); (k_dflt ((rcases o' with ⟨ek, r9, tt9, q9, e9⟩); subst ek e9))))
local macro_rules | `(tactic| walk_at "call ref") => `(tactic| (k_here; k_dflt (refine' steps_use (need_yes (rs := ?rs) ?hk ?hs) ?B ?F ?X ?N ?hz ?T ?K ?ne ?off ?TK ?hd ?hu ?_ ?exn; (case B => k_asm); (case F => k_asm); (case X => k_asm); (case N => k_asm); (case hz => first | exact rfl | omega); (case T => k_asm); (case K => first | exact rfl | assumption); (case ne => assumption); (case off => assumption); (case TK => with_reducible assumption); (case hk => omega); (case hs => assumption); (case hd => ktr_room); (case hu => ktr_units); (case exn => exact fun _ _ _ _ _ _ _ _ _ _ _ _ _ _ _ _ _ _ hx => hx.elim); k_whole); intro v' k' h' tk' tk2' F' N' o'; (try k_sweep); (k_dflt ((rcases o' with ⟨e9, ek⟩); subst ek e9))))
local macro_rules | `(tactic| walk_at "call ref") => `(tactic| (k_here; k_dflt (refine' steps_use (name_no (rs := ?rs) ?hk ?hn ?hp) ?B ?F ?X ?N ?hz ?T ?K ?ne ?off ?TK ?hd ?hu ?rt ?_; (case B => k_asm); (case F => k_asm); (case X => k_asm); (case N => k_asm); (case hz => first | exact rfl | omega); (case T => k_asm); (case K => first | exact rfl | assumption); (case ne => assumption); (case off => assumption); (case TK => with_reducible assumption); (case hk => omega); (case hn => assumption); (case hp => assumption); (case hd => ktr_room); (case hu => ktr_units); (case rt => exact fun _ _ _ _ _ _ _ hx => hx.elim); k_whole); intro e9 D9 w91 w92 wv9 pa9 u91 u92 q9 k9 tk29 h9 tk9 g9 F9 U9 R9 m9 x9; (k_dflt (subst x9)); (try dsimp only)))
local macro_rules | `(tactic| walk_at "call ref") => `(tactic| (k_here; k_dflt (refine' steps_use (need_no (rs := ?rs) ?hk ?hs ?hp ?hg) ?B ?F ?X ?N ?hz ?T ?K ?ne ?off ?TK ?hd ?hu ?rt ?_; (case B => k_asm); (case F => k_asm); (case X => k_asm); (case N => k_asm); (case hz => first | exact rfl | omega); (case T => k_asm); (case K => first | exact rfl | assumption); (case ne => assumption); (case off => assumption); (case TK => with_reducible assumption); (case hk => omega); (case hs => assumption); (case hp => assumption); (case hg => decide); (case hd => ktr_room); (case hu => ktr_units); (case rt => exact fun _ _ _ _ _ _ _ hx => hx.elim); k_whole); intro e9 D9 w91 w92 wv9 pa9 u91 u92 q9 k9 tk29 h9 tk9 g9 F9 U9 R9 m9 x9; (k_dflt (subst x9)); (try dsimp only)))
local macro_rules | `(tactic| walk_at "exec Raise some none") => `(tactic| (k_here; k_dflt (refine' raise_fault ?X ?h ?_; (case X => k_asm); (case h => exact rfl))))
local macro_rules | `(tactic| walk_at "call ref") => `(tactic| (k_here; k_dflt (refine' fault_ok (rs := ?rs) ?B ?F ?X ?N ?T ?K ?TK ?RD ?hne ?hd ?hu ?_; (case B => k_asm); (case F => k_asm); (case X => k_asm); (case N => k_asm); (case T => k_asm); (case K => first | exact rfl | assumption); (case TK => first | with_reducible assumption | exact Toks.mono (by with_reducible assumption) (by first | exact fun _ h9 => h9 | exact fun _ h9 => .tail _ h9 | exact fun _ h9 => .tail _ (.tail _ h9) | exact fun _ h9 => .tail _ (.tail _ (.tail _ h9)) | exact fun _ h9 => .tail _ (.tail _ (.tail _ (.tail _ h9))) | exact fun _ h9 => .tail _ (.tail _ (.tail _ (.tail _ (.tail _ h9)))))); (case RD => first | with_reducible assumption | exact ⟨_, _, _, _, _, _, by k_mem, by k_mem⟩); (case hne => assumption); (case hd => ktr_room); (case hu => ktr_units); k_whole); intro e8 D8 t8 w81 w82 wv8 pa8 u81 u82 h8 tk8 F8 N8 o8 m8; (try k_sweep)))
local macro_rules | `(tactic| walk_at "leaving ref") => `(tactic| (k_here; k_dflt (refine' leave_onD ?K ?F ?R ?U ?_; (case R => assumption); (case F => assumption); (case K => assumption); (case U => assumption); k_whole); intro h9 R9 U9))
local macro_rules | `(tactic| walk_at "leaving ref") => `(tactic| (k_here; k_dflt (refine' leave_faultS ?K ?F ?N ?o ?_; (case N => assumption); (case F => assumption); (case K => assumption); (case o => assumption); k_whole); intro h9 R9 U9))
local macro_rules | `(tactic| walk_at "FaultUp") => `(tactic| (refine ⟨_, _, _, rfl, Frag.In.keeps (by assumption) (Fr.keep (by assumption)), ((by assumption : News _ _ _ _) _ (.head _)).1, ?_⟩))
/-- what skip_end does: where the reader stands behind it, or the place of the fault -/
def endSpec (rs : List Int) (k : Nat) (nm : Str) : Except Nat Nat :=
  if isEnd rs k then
    match rs[k + 2]? with
    | none => .error (min (k + 2) (rs.length - 1))
    | some r => if isName r then
        if wd r != nm then .error (min (k + 3) (rs.length - 1))
        else if kindIs rs (k + 3) "sign" && worthIs rs (k + 3) "." then .ok (k + 4) else .error (min (k + 3) (rs.length - 1))
      else .error (min (k + 2) (rs.length - 1))
  else .ok k
theorem kindIs_lt {rs : List Int} {i : Nat} {kk : Str} (h : kindIs rs i kk = true) : i < rs.length := by
  unfold kindIs at h
  cases q : rs[i]? with
  | none => rw [q] at h; cases h
  | some r => exact (List.getElem?_eq_some_iff.mp q).1
theorem isEnd_lt {rs : List Int} {k : Nat} (h : isEnd rs k = true) : k + 1 < rs.length := by
  unfold isEnd at h
  simp only [Bool.and_eq_true] at h
  exact kindIs_lt h.2.1
theorem spec_off {rs : List Int} {k : Nat} {nm : Str} (h : isEnd rs k = false) : endSpec rs k nm = .ok k := by unfold endSpec; rw [h]; rfl
theorem spec_noname {rs : List Int} {k : Nat} {nm : Str} (h : isEnd rs k = true) (hn : nameAt rs (k + 2) = false) : endSpec rs k nm = .error (min (k + 2) (rs.length - 1)) := by
  unfold endSpec; unfold nameAt at hn; rw [if_pos h]
  cases q : rs[k + 2]? with
  | none => rfl
  | some r => rw [q] at hn; simp only [] at hn; show (if isName r = true then _ else _) = _; rw [hn]; rfl
theorem spec_name {rs : List Int} {k : Nat} {nm : Str} {r : Int} (h : isEnd rs k = true) (hn : nameAt rs (k + 2) = true) (q : rs[k + 2]? = some r) : endSpec rs k nm = (if wd r != nm then .error (min (k + 3) (rs.length - 1))
        else if kindIs rs (k + 3) "sign" && worthIs rs (k + 3) "." then .ok (k + 4) else .error (min (k + 3) (rs.length - 1))) := by
  unfold endSpec; unfold nameAt at hn; rw [if_pos h]
  rw [q] at hn ⊢; simp only [] at hn; show (if isName r = true then _ else _) = _; rw [if_pos hn]
theorem spec_other {rs : List Int} {k : Nat} {nm : Str} {r : Int} (h : isEnd rs k = true) (hn : nameAt rs (k + 2) = true) (q : rs[k + 2]? = some r) (hw : (wd r != nm) = true) : endSpec rs k nm = .error (min (k + 3) (rs.length - 1)) := by rw [spec_name h hn q, if_pos hw]
theorem spec_yes {rs : List Int} {k : Nat} {nm : Str} {r : Int} (h : isEnd rs k = true) (hn : nameAt rs (k + 2) = true) (q : rs[k + 2]? = some r) (hw : (wd r != nm) = false) (hs : (kindIs rs (k + 3) "sign" && worthIs rs (k + 3) ".") = true) : endSpec rs k nm = .ok (k + 4) := by
  rw [spec_name h hn q, if_neg (by rw [hw]; decide), if_pos hs]
theorem spec_no {rs : List Int} {k : Nat} {nm : Str} {r : Int} (h : isEnd rs k = true) (hn : nameAt rs (k + 2) = true) (q : rs[k + 2]? = some r) (hw : (wd r != nm) = false) (hs : (kindIs rs (k + 3) "sign" && worthIs rs (k + 3) ".") = false) : endSpec rs k nm = .error (min (k + 3) (rs.length - 1)) := by
  rw [spec_name h hn q, if_neg (by rw [hw]; decide), if_neg (by rw [hs]; decide)]
section
variable {w : World} {p : Program} {loose : List Str} {mean : ExcName → Option Value} {mg mb : Str → Option Value}
theorem skip_off {rs : List Int} {k : Nat} {nm : Str} {tn : Tok} (hk : k ≤ 12) (he : isEnd rs k = false) :
    Steps w p loose mean mg mb 50 rs k 28 [.str nm tn] (fun _ v k' => v = .none ∧ endSpec rs k nm = .ok k') (fun q => endSpec rs k nm = .error q) := by
  unfold Steps
  intro dp un gd cn cs a ccd cl outer A₀ base h₀ L m rd dd nd tl t1 t2 t3 tk ts rest s Q E B F X N T hks hne off TK hd hu ret exn
  have RD : RdIn w.params ((rd, instObj 245 dd) :: (dd, rdD w.params t1 t2 t3 tl ((k : Nat) : Int) tk nd) :: rest) rd tl k := ⟨dd, nd, t1, t2, t3, tk, .head _, .tail _ (.head _)⟩
  revert X
  w_top off
  k_fill
  intro X
  refine wpAny_call ?_
  k_dflt ktr_enter
  k_steps
  exact ret _ _ _ _ _ (by assumption) (by assumption) ⟨rfl, spec_off he⟩
theorem skip_noname {rs : List Int} {k : Nat} {nm : Str} {tn : Tok} (hk : k ≤ 12) (he : isEnd rs k = true) (hn : nameAt rs (k + 2) = false) :
    Steps w p loose mean mg mb 50 rs k 28 [.str nm tn] (fun _ v k' => v = .none ∧ endSpec rs k nm = .ok k') (fun q => endSpec rs k nm = .error q) := by
  unfold Steps
  intro dp un gd cn cs a ccd cl outer A₀ base h₀ L m rd dd nd tl t1 t2 t3 tk ts rest s Q E B F X N T hks hne off TK hd hu ret exn
  have RD : RdIn w.params ((rd, instObj 245 dd) :: (dd, rdD w.params t1 t2 t3 tl ((k : Nat) : Int) tk nd) :: rest) rd tl k := ⟨dd, nd, t1, t2, t3, tk, .head _, .tail _ (.head _)⟩
  revert X
  w_top off
  k_fill
  intro X
  refine wpAny_call ?_
  k_dflt ktr_enter
  have hl := isEnd_lt he
  have hp : 0 < rs.length := by omega
  k_steps
  exact exn _ _ _ _ _ _ _ _ _ _ _ _ _ _ (by assumption) (by assumption) (by assumption) (by first | assumption | exact pair_rest (by assumption)) (spec_noname he hn)
theorem skip_yes {rs : List Int} {k : Nat} {nm : Str} {tn : Tok} (hk : k ≤ 12) (he : isEnd rs k = true) (hn : nameAt rs (k + 2) = true) (hs : (kindIs rs (k + 3) "sign" && worthIs rs (k + 3) ".") = true) :
    Steps w p loose mean mg mb 50 rs k 28 [.str nm tn] (fun _ v k' => v = .none ∧ endSpec rs k nm = .ok k') (fun q => endSpec rs k nm = .error q) := by
  unfold Steps
  intro dp un gd cn cs a ccd cl outer A₀ base h₀ L m rd dd nd tl t1 t2 t3 tk ts rest s Q E B F X N T hks hne off TK hd hu ret exn
  have RD : RdIn w.params ((rd, instObj 245 dd) :: (dd, rdD w.params t1 t2 t3 tl ((k : Nat) : Int) tk nd) :: rest) rd tl k := ⟨dd, nd, t1, t2, t3, tk, .head _, .tail _ (.head _)⟩
  revert X
  w_top off
  k_fill
  intro X
  refine wpAny_call ?_
  k_dflt ktr_enter
  have hl := isEnd_lt he
  have hp : 0 < rs.length := by omega
  k_steps
  · exact exn _ _ _ _ _ _ _ _ _ _ _ _ _ _ (by assumption) (by assumption) (by assumption) (by first | assumption | exact pair_rest (by assumption)) (spec_other he hn (by assumption) (by assumption))
  · exact ret _ _ _ _ _ (by assumption) (by assumption) ⟨rfl, spec_yes he hn (by assumption) (by assumption) hs⟩
theorem skip_no {rs : List Int} {k : Nat} {nm : Str} {tn : Tok} (hk : k ≤ 12) (he : isEnd rs k = true) (hn : nameAt rs (k + 2) = true) (hs : (kindIs rs (k + 3) "sign" && worthIs rs (k + 3) ".") = false) :
    Steps w p loose mean mg mb 50 rs k 28 [.str nm tn] (fun _ v k' => v = .none ∧ endSpec rs k nm = .ok k') (fun q => endSpec rs k nm = .error q) := by
  unfold Steps
  intro dp un gd cn cs a ccd cl outer A₀ base h₀ L m rd dd nd tl t1 t2 t3 tk ts rest s Q E B F X N T hks hne off TK hd hu ret exn
  have RD : RdIn w.params ((rd, instObj 245 dd) :: (dd, rdD w.params t1 t2 t3 tl ((k : Nat) : Int) tk nd) :: rest) rd tl k := ⟨dd, nd, t1, t2, t3, tk, .head _, .tail _ (.head _)⟩
  revert X
  w_top off
  k_fill
  intro X
  refine wpAny_call ?_
  k_dflt ktr_enter
  have hl := isEnd_lt he
  have hp : 0 < rs.length := by omega
  k_steps
  · exact exn _ _ _ _ _ _ _ _ _ _ _ _ _ _ (by assumption) (by assumption) (by assumption) (by first | assumption | exact pair_rest (by assumption)) (spec_other he hn (by assumption) (by assumption))
  · exact exn _ _ _ _ _ _ _ _ _ _ _ _ _ _ (by assumption) (by assumption) (by assumption) (by first | assumption | exact pair_rest (by assumption)) (spec_no he hn (by assumption) (by assumption) hs)
theorem skip_end_ok {rs : List Int} {k : Nat} {nm : Str} {tn : Tok} (hk : k ≤ 12) :
    Steps w p loose mean mg mb 50 rs k 28 [.str nm tn] (fun _ v k' => v = .none ∧ endSpec rs k nm = .ok k') (fun q => endSpec rs k nm = .error q) := by
  cases he : isEnd rs k with
  | false => exact skip_off hk he
  | true =>
    cases hn : nameAt rs (k + 2) with
    | false => exact skip_noname hk he hn
    | true =>
      cases hs : (kindIs rs (k + 3) "sign" && worthIs rs (k + 3) ".") with
      | false => exact skip_no hk he hn hs
      | true => exact skip_yes hk he hn hs
end
end Og91
end

/-! Enter -/
section
open PySem.Spec Og91
set_option maxRecDepth 100000
set_option maxHeartbeats 4000000
namespace Og91
section
variable {prog : Program} {w : World} {A₀ A : Around} {s : Shared} {base h₀ : Heap} {L : Addr} {m : Str → Option Value} {env : Env} {news : List (Addr × Obj)} {K : Frag} {p : Program} {loose : List Str} {mean : ExcName → Option Value} {mg mb : Str → Option Value}
/-- a def with cells is entered from the call's own frame: a try in it may turn that frame's slots -/
theorem code_S0C {R : Result → Shared → Prop} {name qual : Str} {params : Arguments} {body : List Stmt} {scope : Scope} {dV kV doc pm cdv ct oc : Value} {an od : Option Addr} {osl : Array (Option Value)} {f : Addr} {args : Args} {binds : List (Str × Value)}
    (B : Below A₀ base [] h₀) (F : Fr h₀ L s.heap m) (X₀ : K.In h₀) (N : News h₀ L s.heap news) (T : Top p loose mean mg mb h₀) (hA : A.frames = some [env]) (hf : env.frame = some L) (hke : env.scope.kind = .function)
    (ho : K.lookup f = some ⟨oc, od, .func (fnOf name qual params body scope dV kV doc pm an cdv ct), osl⟩) (hcd : codeIn K cdv qual = true) (hroom : A.depth < recursionLimit)
    (hbind : BindsTo s (fnOf name qual params body scope dV kV doc pm an cdv ct) args binds) (hkind : (binds.all fun y => scope.names.lookup y.1 == some .local || scope.names.lookup y.1 == some .cell) = true)
    (hnd : ((cellsFrom 0 scope.names []).map (·.1)).Nodup)
    (h : ∀ g L' h₁ tk cells, Fr h₀ L g m → Fr g L' h₁ (bindL (envOfC qual scope L' f cdv).kindOf binds fun _ => none) → News g L' h₁ (cells ++ news) →
      CellsAre (bindC (envOfC qual scope L' f cdv).kindOf binds fun _ => none) (cellsFrom (L' + 1) scope.names []) cells → Below A base [env] g → K.In g → Top p loose mean mg mb g → KtsDicts ([env].filterMap (·.frame)) g → (∀ p ∈ news, p.1 < L') →
      wpAny (model prog w) (A.deeper (envOfC qual scope L' f cdv)) (execs body (envOfC qual scope L' f cdv))
        (fun fl s' => LeaveS0 ([env].filterMap (·.frame)) h₀ L m g R (match fl with | .ret v => v | _ => .none) s')
        (fun e s' => wpAny (model prog w) (A.deeper (envOfC qual scope L' f cdv)) (leaving (envOfC qual scope L' f cdv) e) (fun _ s'' => R (.error e) s'') (fun e' s'' => R (.error e') s'') s')
        { s with heap := h₁, toks := tk })
    (hco : scope.isCoroutine = false) (hgen : scope.isGenerator = false) (hk : scope.kind = .function) : codeAny (model prog w) A (.call (.ref f) args) R s := by
  have X := X₀.keeps F.keep
  obtain ⟨FG, BG, st, _⟩ := groundX (R := R) B F N hA hf hke
  have hL : ∃ oL es ep, (hideAll s.heap (news.map (·.1))).get? L = some oL ∧ oL.data = .dict es ep ∧ ∀ (sl : Array (Option Value)) h', h'.get? L = some { oL with slots := sl } → Heap.Ns h' L m := by
    obtain ⟨oL, es, ep, hL, hLd, hLk, hLf⟩ := F.ns
    refine ⟨oL, es, ep, hideAll_get _ hL fun q => ?_, hLd, fun sl h' e => ⟨_, es, ep, e, hLd, hLk, hLf⟩⟩
    obtain ⟨p, hp, e⟩ := List.mem_map.mp q
    exact (N p hp).2.1 e
  obtain ⟨oL, es, ep, hLg, hLd, hNs⟩ := hL
  have hfr : ([env].filterMap (·.frame)) = [L] := by simp [hf]
  have D : KtsDicts ([env].filterMap (·.frame)) (hideAll s.heap (news.map (·.1))) := fun b hb => by
    rw [hfr] at hb
    rw [List.mem_singleton.mp hb]
    exact ⟨oL, es, ep, hLg, hLd⟩
  refine codeAny_call_function hroom (X _ _ ho) rfl hco hgen rfl (codeRec_of X hcd) (hbind _ _ _ _ ?_)
  refine wpAny_newFunctionEnv_cells hk (kindsX hkind _) fun env' he s' x => ?_
  subst he
  refine ⟨(T.nolimit.keeps F.keep).keeps x.toInCall.keep, codeAny_func ?_⟩
  obtain ⟨h₁, tk, rfl, _⟩ := x.done
  have hk₁ := x.toInCall.keep
  obtain ⟨cells, NC, Y⟩ := Cl.news (h₀ := s.heap) (Nat.le_refl _) fun n c hm => ⟨x.cell n c (lookup_of_mem_nodup (cellsFrom_names scope.names 0 (s.heap.objs.size + 1) [] [] rfl ▸ hnd) hm), x.above n c hm⟩
  refine wpAny_mono (h _ s.heap.objs.size h₁ tk cells FG ⟨x.toInCall.ns, fun b o e => hk₁ b o (of_hideAll _ e), Nat.le_of_eq (hideAll_size _ _)⟩ (fun p hp => ?_) Y BG (X₀.keeps st) (T.keeps st) D (fun p hp => Heap.lt_size (N p hp).1)) (fun fl s' hl => ?_) fun _ _ y => y
  · rcases List.mem_append.mp hp with hp | hp
    · refine ⟨(NC p hp).1, (NC p hp).2.1, ?_⟩
      cases q : (hideAll s.heap (news.map (·.1))).get? p.1 with
      | none => rfl
      | some o => have := of_hideAll _ q; rw [(NC p hp).2.2] at this; cases this
    · exact ⟨hk₁ _ _ (N p hp).1, Nat.ne_of_lt (Heap.lt_size (N p hp).1), hideAll_none _ (List.mem_map_of_mem hp)⟩
  · obtain ⟨g', L', m', news', T', F', N', k⟩ := hl
    rw [hfr] at T'
    have nL₀ : h₀.get? L = none := kts_self F
    obtain ⟨sl, hs⟩ := T'.up hLg
    refine k ⟨hNs sl _ (F'.keep _ _ hs), fun b o e => F'.keep b o (T'.other b o (st b o e) (fun q => by
      rw [List.mem_singleton.mp q, nL₀] at e
      cases e)), F.above⟩ fun p hp => ⟨(N' p hp).1, fun q => ?_, ?_⟩
    · have := (N' p hp).2.2; rw [q, hs] at this; cases this
    · cases q : h₀.get? p.1 with
      | none => rfl
      | some o =>
        obtain ⟨sl', hs'⟩ := T'.up (st _ _ q)
        have := (N' p hp).2.2
        rw [hs'] at this
        cases this
end
end Og91
end

/-! Get -/
section
open PySem.Spec Og91
set_option maxRecDepth 100000
set_option maxHeartbeats 4000000
namespace Og91
theorem gf_ga {P : Params} : findIn (tp.heap_1 P) (.ref 67) "__getattribute__" = some (some (.builtin "BaseException.__getattribute__")) := by kernel_rfl
theorem gf_gattr {P : Params} : findIn (tp.heap_1 P) (.ref 67) "__getattr__" = some none := by kernel_rfl
theorem gf_find {P : Params} : findIn (tp.heap_1 P) (.ref 67) "at" = some none := by kernel_rfl
theorem gf_hd {P : Params} : hasDictIn (tp.heap_1 P) 67 = true := by kernel_rfl
section
variable {prog : Program} {w : World} {A : Around} {E : Value → Shared → Prop} {s : Shared} {value slice : PySem.Expr} {h₀ : Heap} {L : Addr} {m : Str → Option Value} {news : List (Addr × Obj)} {Q : Value → Shared → Prop}
theorem get_fault {e D pa : Addr} {vs : Array Value} {w1 w2 : Tok} {wv : Value} {expr : Bool} (F : Fr h₀ L s.heap m) (X₀ : (tp.heap_1 w.params).In h₀) (N : News h₀ L s.heap news) (m1 : (e, ({ cls := .ref 67, dict := some D, data := .fields vs } : Obj)) ∈ news) (m2 : (D, gfD w.params w1 w2 wv (.ref pa)) ∈ news)
    (hq : Q (.ref pa) { s with toks := s.toks + 1 }) : wpAny (model prog w) A (getAttr (.ref e) "at" expr) Q E s := by
  have X := X₀.keeps F.keep
  have I : InstAt s.heap e { cls := .ref 67, dict := some D, data := .fields vs } 67 (some (gfD w.params w1 w2 wv (.ref pa))) := ⟨(N _ m1).1, rfl, rfl, (N _ m2).1⟩
  have hf : findObj (tp.heap_1 w.params) 67 (some (gfD w.params w1 w2 wv (.ref pa))) "at" = some (.value (.ref pa)) := findObj_own gf_hd gf_find rfl (by rfl)
  obtain ⟨h, g, d, t, os⟩ := s
  have hx : h.get? e = some { cls := .ref 67, dict := some D, data := .fields vs } := I.at_
  have L0 := I.type (M := model prog w)
  have L1 := looks_findIn (M := model prog w) X gf_ga
  have L2 := looks_findIn (M := model prog w) X gf_gattr
  have L3 := looks_find (M := model prog w) X I hf
  unfold getAttr getAttrBy
  refine wpAny_bind (wpAny_mkText (wpAny_holding (wpAny_bind (L0.at (wpAny_bind (L1.at ?_))))))
  have f3 : bindSpecial (.builtin "BaseException.__getattribute__") (.ref e) = pure (.builtin "BaseException.__getattribute__", [.ref e]) := (PySem.F.attrBase_Exception).ga.bind (.ref e)
  have hx0 : (expr && onTheHeap (Value.builtin "BaseException.__getattribute__")) = false := by cases expr <;> rfl
  show wpAny _ _ (getAttrByItsOwn (.ref e) (.str "at" t) (.ref 67) (.builtin "BaseException.__getattribute__") true expr) _ _ ⟨h, g, d, t + 1, os⟩
  unfold getAttrByItsOwn hookBefore
  refine wpAny_bind ?_
  repeat (any_goals (first | assumption | (refine L2.at ?_) | wp_step))
  have hC := gf_cls X
  have hcB : (Value.ref 67 :: gfMro).contains (.type "BaseException") = true := gf_has (by decide +kernel)
  have hk : builtinKind "BaseException.__getattribute__" = some .slot := by decide +kernel
  have hsplit : splitId "BaseException.__getattribute__" = some ("BaseException", "__getattribute__") := by decide +kernel
  have ha := PySem.F.args_bexc_ga (.ref e) (.str "at" t)
  refine codeAny_call_builtin (PySem.F.attrBase_Exception).ga.plain PySem.F.entry_bexc_ga ?_
  show wpAny _ _ (checkBuiltinCall "BaseException.__getattribute__" ⟨[.ref e, .str "at" t], []⟩) _ _ ⟨h, g, d, t + 1, os⟩
  simp only [checkBuiltinCall, hk, hsplit]
  refine wpAny_bind ?_
  unfold isInstance
  repeat (first | (with_reducible refine L3.at ?_) | (with_reducible refine wpAny_loadPart_at hx ?_) | ((show wpAny _ _ (isSubtype (.ref 67) _) _ _ _); refine wpAny_isSubtype_exc hC ?_; rw [hcB]) | wp_step)
  exact hq
theorem item_pair {pa : Addr} {a : Value} {z : Int} {t u : Tok} (N : News h₀ L s.heap news) (hm : (pa, tupO #[a, .int z t]) ∈ news) (h : Q (.int z t) s)
    (hs : subscripted slice false (.ref pa) (.int 1 u) = operate [.ref pa, .int 1 u] (getItem (.ref pa) (.int 1 u)) := by with_unfolding_all rfl) :
    wpAny (model prog w) A (subscriptTail value slice (.ref pa) (.int 1 u)) Q E s := by
  have ht : IsTup s.heap pa #[a, .int z t] := ⟨_, (N _ hm).1, rfl, _, rfl⟩
  exact item_tupleT (j := 1) ht (by omega) (by omega) rfl rfl h hs
theorem name_goesX {M : Model} {name n : Str} {scope : Scope} {a : Addr} {cd : Value} {cl : List (Str × Addr)} {pos : Pos} {Q : Unit → Shared → Prop} (F : Fr h₀ L s.heap m) (N : News h₀ L s.heap news)
    (h : ∀ h' v, Fr h₀ L h' (fun x => if x = n then v else m x) → News h₀ L h' news → Q () { s with heap := h', toks := s.toks + 1 })
    (hk : scope.kind = .function := by rfl) (hl : (envX name scope L a cd cl).kindOf n = some .local := by rfl) :
    wpAny M A (do bindName (envX name scope L a cd cl) n .none; unbindBehindTheSuite (envX name scope L a cd cl) n pos) Q E s :=
  wpAny_nameGoes_keeps (env := envX name scope L a cd cl) hl F.ns (by show (scope.kind == .class || (scope.kind == .module && L != mainGlobals)) = false; rw [hk]; rfl) fun h' v hn hs => h h' v (F.set hn hs) (N.set hs)
end
end Og91
end

/-! CAns -/
section
open Og91
set_option maxRecDepth 100000
set_option maxHeartbeats 8000000
namespace Og91
local macro_rules | `(tactic| walk_at "pad") => `(tactic| fail "no line")
local macro_rules | `(tactic| walk_at "call builtin:len") => `(tactic| (k_here; (with_reducible show wpAny _ _ (call (Value.builtin "len") [Value.ref _]) _ _ _); k_dflt (refine' len_row ?F ?N ?X ?r ?i ?l ?_; (case F => k_asm); (case N => k_asm); (case X => k_asm); (case r => exact RowAt.more (by assumption) (fun p hp => by simp [hp])); (case i => assumption); (case l => assumption); k_whole)))
local macro_rules | `(tactic| walk_at "subscriptTail") => `(tactic| (k_here; (with_reducible show wpAny _ _ (subscriptTail (Expr.Name (PySem.Str.ofString "row") _) _ _ _) _ _ _); k_dflt (refine' item_row ?F ?N ?X ?r ?I ?l ?z ?i ?_ ?s; (case F => k_asm); (case N => k_asm); (case X => k_asm); (case r => exact RowAt.more (by assumption) (by first | exact fun _ h9 => .tail _ (.tail _ (.tail _ ((by assumption : ∀ p ∈ _, p ∈ _) _ h9))) | exact fun _ h9 => .tail _ (.tail _ (.tail _ (.tail _ ((by assumption : ∀ p ∈ _, p ∈ _) _ h9)))))); (case I => assumption); (case l => assumption); (case z => exact rfl); (case i => assumption); (case s => with_unfolding_all rfl); k_whole); intro q9 t9 e9))
local macro_rules | `(tactic| walk_at "subscriptTail") => `(tactic| (k_here; (with_reducible show wpAny _ _ (subscriptTail (Expr.Name (PySem.Str.ofString "_law_MENU") _) _ _ _) _ _ _); k_dflt (refine' menu_get ?X ?a ?b ?_ ?s; (case X => exact Frag.In.keeps (by k_asm) (Fr.keep (by k_asm))); (case a => exact row_lo (by assumption) (by assumption)); (case b => exact row_hi (by assumption) (by assumption)); (case s => with_unfolding_all rfl); k_whole)))
local macro_rules | `(tactic| walk_at "subscriptTail") => `(tactic| (k_here; (with_reducible show wpAny _ _ (subscriptTail _ _ (Value.ref (mref _)) (Value.int 0 _)) _ _ _); k_dflt (refine' menu_kind ?F ?X ?a ?b ?_ ?s; (case F => k_asm); (case X => k_asm); (case a => exact row_lo (by assumption) (by assumption)); (case b => exact row_hi (by assumption) (by assumption)); (case s => with_unfolding_all rfl); k_whole); intro t9))
local macro_rules | `(tactic| walk_at "subscriptTail") => `(tactic| (k_here; (with_reducible show wpAny _ _ (subscriptTail _ _ (Value.ref (mref _)) (Value.int 1 _)) _ _ _); k_dflt (refine' menu_word ?F ?X ?a ?b ?_ ?s; (case F => k_asm); (case X => k_asm); (case a => exact row_lo (by assumption) (by assumption)); (case b => exact row_hi (by assumption) (by assumption)); (case s => with_unfolding_all rfl); k_whole); intro t9))
local macro_rules | `(tactic| walk_at "exec Try") => `(tactic| (k_here; refine wpAny_Try_except ?_))
local macro_rules | `(tactic| walk_at "call ref") => `(tactic| (k_here; k_dflt (refine' steps_use (skip_end_ok (rs := ?rs) ?hk) ?B ?F ?X ?N ?hz ?T ?K ?ne ?off ?TK ?hd ?hu ?_ ?_; (case B => k_asm); (case F => k_asm); (case X => k_asm); (case N => exact rd_front (by k_asm)); (case hz => exact rfl); (case T => k_asm); (case K => exact rfl); (case ne => k_ne); (case off => exact List.forall_mem_cons.mpr ⟨by k_ne, List.forall_mem_cons.mpr ⟨by k_ne, allLt_at (And.right (by assumption))⟩⟩); (case TK => exact Toks.mono (by with_reducible assumption) (fun _ h9 => .tail _ h9)); (case hk => omega); (case hd => ktr_room); (case hu => ktr_units))))
local macro_rules | `(tactic| k_all) => `(tactic| exact allLt_at (And.right (by assumption)))
local macro_rules | `(tactic| walk_at "getAttr ref") => `(tactic| (k_here; (with_reducible show wpAny _ _ (getAttr (Value.ref _) (PySem.Str.ofString "at") _) _ _ _); k_dflt (refine' get_fault ?F ?X ?N ?a ?b ?_; (case F => k_asm); (case X => k_asm); (case N => k_asm); (case a => exact .head _); (case b => exact .tail _ (.head _)); k_whole)))
local macro_rules | `(tactic| walk_at "subscriptTail") => `(tactic| (k_here; (with_reducible show wpAny _ _ (subscriptTail (Expr.Attribute _ _ _) _ (Value.ref _) (Value.int 1 _)) _ _ _); k_dflt (refine' item_pair ?N ?a ?_ ?s; (case N => k_asm); (case a => exact List.Mem.tail _ (List.Mem.tail _ (List.Mem.tail _ (List.Mem.tail _ (by assumption))))); (case s => with_unfolding_all rfl); k_whole)))
local macro_rules | `(tactic| walk_at "eval ListComp") => `(tactic| (k_here; k_dflt (refine LCg.ListComp_U (F₀ := by k_asm) (by with_unfolding_all rfl) (by decide) (by rfl) (by decide) (by rfl) ?_)))
local macro_rules | `(tactic| walk_at "CompSrc") => `(tactic| (k_here; k_dflt (refine range_src (by rfl) (by k_asm) (by k_asm) (by assumption) (by assumption) ?_)))
theorem ans_ok {x : Except Nat Nat} {k : Nat} {t : Tok} (e : x = .ok k) : AnsObj x (tupO #[.int (k : Int) t, .none]) := by rw [e]; exact ⟨t, rfl⟩
theorem ans_err {x : Except Nat Nat} {q : Nat} {t : Tok} (e : x = .error q) : AnsObj x (tupO #[.none, .int ((q : Int) + 1 - 1) t]) := by rw [e]; exact ⟨t, by rw [Int.add_sub_cancel]⟩
theorem ans_news5 {h₀ h : Heap} {L : Addr} {x a b c d : Addr × Obj} {nw news : List (Addr × Obj)} (N : News h₀ L h (x :: a :: b :: c :: d :: nw)) (hs : ∀ p ∈ news, p ∈ nw) : News h₀ L h (x :: news) := fun p hp => by
  rcases List.mem_cons.mp hp with e | hp
  · exact N p (e ▸ .head _)
  · exact N p (.tail _ (.tail _ (.tail _ (.tail _ (.tail _ (hs p hp))))))
theorem ans_news7 {h₀ h : Heap} {L : Addr} {x a b c d e f : Addr × Obj} {nw news : List (Addr × Obj)} (N : News h₀ L h (x :: a :: b :: c :: d :: e :: f :: nw)) (hs : ∀ p ∈ news, p ∈ nw) : News h₀ L h (x :: news) := fun p hp => by
  rcases List.mem_cons.mp hp with e | hp
  · exact N p (e ▸ .head _)
  · exact N p (.tail _ (.tail _ (.tail _ (.tail _ (.tail _ (.tail _ (.tail _ (hs p hp))))))))
section
variable {w : World} {p : Program} {loose : List Str} {mean : ExcName → Option Value} {mg mb : Str → Option Value}
theorem answer_ok   {dp un : Nat} {gd : Option (List Code)} {cn : Str} {cs : Scope} {a : Addr} {ccd : Value} {cl : List (Str × Addr)}
    {A₀ : Around} {base h₀ : Heap} {L : Addr} {m : Str → Option Value} {s : Shared} {Q E : Value → Shared → Prop} {news : List (Addr × Obj)} {r : Addr} {vs : List Value} {rs : List Int} {k : Nat} {nm : Str} {tn ta : Tok}
    (B : Below A₀ base [] h₀) (F : Fr h₀ L s.heap m) (X : (tp.heap_1 w.params).In h₀) (N : News h₀ L s.heap news) (T : Top p loose mean mg mb h₀) (hks : cs.kind = .function) (XB : (tp.heap_1 w.params).In base) (TB : Top p loose mean mg mb base)
    (hrow : RowAt w.params news r vs) (hI : IntsAre vs rs) (hr : ∀ x ∈ rs, 0 ≤ x ∧ x ≤ 9) (hlen : rs.length ≤ 11) (hk : k ≤ rs.length)
    (hd : dp + 80 < recursionLimit) (hu : un + 700 < cLine)
    (ret : ∀ D o h' tk', Fr h₀ L h' m → News h₀ L h' ((D, o) :: news) → AnsObj (endSpec rs k nm) o → Q (.ref D) { s with heap := h', toks := tk' }) :
    wpAny (model PySem.Challenge.rw_og0091_01.row.prog w) (ktrTop dp un gd cn cs L a ccd cl []) (call (.ref 342) [.ref r, .int ((k : Nat) : Int) ta, .str nm tn]) Q E s := by
  revert X
  w_top off
  k_fill
  intro X
  refine wpAny_call ?_
  k_dflt (refine' code_S0C ?k1 ?k2 ?k3 ?k4 ?k5 ?kA ?kF ?kK ?k6 ?k7 ?k8 ?k9 ?kB ?kD ?_ ?c2 ?c3 ?c4; (case kA => exact rfl); (case kF => exact rfl); (case kK => first | exact rfl | assumption); (case k1 => k_asm); (case k2 => k_asm); (case k3 => k_asm); (case k4 => k_asm); (case k5 => k_asm); (case k6 => k_is); (case k7 => k_is); (case k8 => ktr_room); (case k9 => first | exact BindsTo.of_eq rfl | exact binds_K (by k_in) rfl (by k_is) rfl rfl rfl); (case kB => exact rfl); (case kD => decide +kernel); (case c2 => exact rfl); (case c3 => exact rfl); (case c4 => exact rfl); k_whole; intro g' L' h' tk' cells' FG' F' N' Y' B' X' T' D' l1; (try k_lt l1); k_cells Y'; (try simp only [List.cons_append, List.nil_append] at N'); (try dsimp only); (try k_fold))
  rename Obj => oc
  iterate 21 (first | (k_unfold; (try dsimp only)) | (k_end; kc_close) | walk1 | (dsimp only; walk1) | (leave1; (try dsimp only)))
  intro g9
  refine rest_ind (AnsInv w.params (L' + 1, oc) news rs) ?step ?fin _ _ _ _ (Nat.zero_add _) ?start
  case start => exact ⟨by k_mem, fun p hp => .tail _ hp, [], rfl, rfl, fun j q hj => absurd hj (Nat.not_lt_zero _)⟩
  case step =>
    intro i ys nw v I oI C oC D m₂ h tk E' hi hinv hv hC hx F9 N9 off ne
    obtain ⟨mc, hsub, ts, rfl, hts, htok⟩ := hinv
    obtain ⟨t9, hv⟩ := hv
    rw [Int.zero_add] at hv
    subst hv
    k_sweep
    k_steps
    exact tok_end (by assumption) (by assumption) off (by refine ⟨?_, ?_, ?_, ?_, ?_⟩ <;> omega) (by assumption) (by assumption) mc hsub hts htok
  case fin =>
    intro ys nw hinv
    unfold LCg.FinE
    intro D h tk F9 N9 o9
    obtain ⟨ts, TK⟩ := toks_of hinv hlen hr
    obtain ⟨mc, hsub, _⟩ := hinv
    k_steps
    · exact ret _ _ _ _ (by assumption) (ans_news5 (by assumption) hsub) (ans_ok (And.right (by assumption)))
    · refine caught_fault (by assumption) (by assumption) (by assumption) (by assumption) XB TB (by assumption) KtsTurn.refl ?_
      intro h8 g8 vs8 tk8 T8 F8 N8 K8 X8 P8 D8
      k_sweep
      k_steps
      k_dflt (refine name_goesX (by k_asm) (by k_asm) ?_)
      intro h9 v9 F9 N9
      k_steps
      exact ret _ _ _ _ (by assumption) (ans_news7 (by assumption) hsub) (ans_err (by assumption))
end
end Og91
end

/-! DueL -/
section
open Og91
set_option maxRecDepth 100000
set_option maxHeartbeats 2000000
namespace Og91
theorem eqv_pair (a b c d : Str) : PyData.eqv (.tuple [.str a, .str b]) (.tuple [.str c, .str d]) = (a == c && b == d) := by
  simp [PyData.eqv, PyData.eqvAll]
theorem eqv_list1 (a b : PyData) : PyData.eqv (.list [a]) (.list [b]) = PyData.eqv a b := by simp [PyData.eqv, PyData.eqvAll]
theorem eqv_list0 (b : PyData) (l : List PyData) : PyData.eqv (.list []) (.list (b :: l)) = false := by simp [PyData.eqv, PyData.eqvAll]
theorem eqv_list0' (b : PyData) (l : List PyData) : PyData.eqv (.list (b :: l)) (.list []) = false := by simp [PyData.eqv, PyData.eqvAll]
theorem eqv_list12 (a b c : PyData) : PyData.eqv (.list [a]) (.list [b, c]) = false := by simp [PyData.eqv, PyData.eqvAll]
theorem eqv_list2 (a b c d : PyData) : PyData.eqv (.list [a, b]) (.list [c, d]) = (PyData.eqv a c && PyData.eqv b d) := by simp [PyData.eqv, PyData.eqvAll]
theorem eqv_end (xs : List Int) : PyData.eqv (.list ((xs.take 2).map menuD)) (.list [.tuple [.str "word", .str "END"], .tuple [.str "word", .str "PROGRAM"]]) = isEnd xs 0 := by
  unfold isEnd kindIs worthIs
  match xs with
  | [] => exact eqv_list0 _ _
  | [a] =>
    show PyData.eqv (.list [menuD a]) _ = _
    rw [eqv_list12]
    simp
  | a :: b :: r =>
    show PyData.eqv (.list [menuD a, menuD b]) _ = _
    rw [eqv_list2]
    unfold menuD
    rw [eqv_pair, eqv_pair]
    rfl
theorem eqv_name {xs : List Int} (h : ∀ r ∈ xs, 0 ≤ r ∧ r ≤ 9) : ([PyData.list [.tuple [.str "word", .str "P"]], PyData.list [.tuple [.str "word", .str "Q"]]].any fun z => z.eqv (.list (((xs.drop 2).take 1).map menuD))) = nameAt xs 2 := by
  unfold nameAt
  match xs, h with
  | [], _ => simp only [List.drop_nil, List.take_nil, List.map_nil, List.any_cons, List.any_nil, eqv_list0']; rfl
  | [a], _ => show ([PyData.list _, PyData.list _].any fun z => z.eqv (.list [])) = _; simp only [List.any_cons, List.any_nil, eqv_list0']; rfl
  | [a, b], _ => show ([PyData.list _, PyData.list _].any fun z => z.eqv (.list [])) = _; simp only [List.any_cons, List.any_nil, eqv_list0']; rfl
  | a :: b :: c :: r, h =>
    show ([PyData.list _, PyData.list _].any fun z => z.eqv (.list [menuD c])) = isName c
    have hc := h c (by simp)
    simp only [List.any_cons, List.any_nil, eqv_list1]
    unfold menuD
    rw [eqv_pair, eqv_pair]
    rcases ten hc.1 hc.2 with rfl | rfl | rfl | rfl | rfl | rfl | rfl | rfl | rfl | rfl <;> decide +kernel
theorem eqv_sign (xs : List Int) : PyData.eqv (.list (((xs.drop 3).take 1).map menuD)) (.list [.tuple [.str "sign", .str "."]]) = (kindIs xs 3 "sign" && worthIs xs 3 ".") := by
  unfold kindIs worthIs
  match xs with
  | [] => exact eqv_list0 _ _
  | [_] => exact eqv_list0 _ _
  | [_, _] => exact eqv_list0 _ _
  | [_, _, _] => exact eqv_list0 _ _
  | _ :: _ :: _ :: c :: r =>
    show PyData.eqv (.list [menuD c]) _ = _
    rw [eqv_list1]
    unfold menuD
    rw [eqv_pair]
    rfl
theorem kindIs_drop {rs : List Int} {k i : Nat} {kk : Str} : kindIs (rs.drop k) i kk = kindIs rs (k + i) kk := by unfold kindIs; rw [List.getElem?_drop]
theorem worthIs_drop {rs : List Int} {k i : Nat} {kk : Str} : worthIs (rs.drop k) i kk = worthIs rs (k + i) kk := by unfold worthIs; rw [List.getElem?_drop]
theorem isEnd_drop {rs : List Int} {k : Nat} : isEnd (rs.drop k) 0 = isEnd rs k := by unfold isEnd; rw [kindIs_drop, kindIs_drop, worthIs_drop, worthIs_drop]; rfl
theorem nameAt_drop {rs : List Int} {k i : Nat} : nameAt (rs.drop k) i = nameAt rs (k + i) := by unfold nameAt; rw [List.getElem?_drop]
section
variable {prog : Program} {w : World} {A : Around} {E : Value → Shared → Prop} {s : Shared} {h₀ : Heap} {L : Addr} {m : Str → Option Value} {news : List (Addr × Obj)} {value slice : PySem.Expr} {xs : List Int} {D : Addr} {k : Nat} {u : Tok} {Q : Value → Shared → Prop}
theorem ne_end {x y : Addr} {es : List PyData} {bs : List Addr} (F : Fr h₀ L s.heap m) (N : News h₀ L s.heap news) (X : (tp.heap_1 w.params).In h₀) (hm : (x, W.listOf ((xs.take 2).map mv).toArray k) ∈ news) (hr : ∀ r ∈ xs, 0 ≤ r ∧ r ≤ 9)
    (rb : Reads s.heap (.ref y) (.list es) bs) (e : es = [.tuple [.str "word", .str "END"], .tuple [.str "word", .str "PROGRAM"]]) (hu : A.units + 64 < cLine) (h : Q (.bool (!isEnd xs 0)) s) : wpAny (model prog w) A (compareOp .NotEq (.ref x) (.ref y)) Q E s := by
  subst e
  exact ne_menu F N X hm (fun q hq => hr q (List.mem_of_mem_take hq)) rb (by decide +kernel) hu (by rw [eqv_end]; exact h)
theorem ne_sign {x y : Addr} {es : List PyData} {bs : List Addr} (F : Fr h₀ L s.heap m) (N : News h₀ L s.heap news) (X : (tp.heap_1 w.params).In h₀) (hm : (x, W.listOf (((xs.drop 3).take 1).map mv).toArray k) ∈ news) (hr : ∀ r ∈ xs, 0 ≤ r ∧ r ≤ 9)
    (rb : Reads s.heap (.ref y) (.list es) bs) (e : es = [.tuple [.str "sign", .str "."]]) (hu : A.units + 64 < cLine) (h : Q (.bool (!(kindIs xs 3 "sign" && worthIs xs 3 "."))) s) : wpAny (model prog w) A (compareOp .NotEq (.ref x) (.ref y)) Q E s := by
  subst e
  exact ne_menu F N X hm (fun q hq => hr q (List.mem_of_mem_drop (List.mem_of_mem_take hq))) rb (by decide +kernel) hu (by rw [eqv_sign]; exact h)
theorem notin_name {x y : Addr} {es : List PyData} {bs : List Addr} (F : Fr h₀ L s.heap m) (N : News h₀ L s.heap news) (X : (tp.heap_1 w.params).In h₀) (hm : (x, W.listOf (((xs.drop 2).take 1).map mv).toArray k) ∈ news) (hr : ∀ r ∈ xs, 0 ≤ r ∧ r ≤ 9)
    (rb : Reads s.heap (.ref y) (.tuple es) bs) (e : es = [.list [.tuple [.str "word", .str "P"]], .list [.tuple [.str "word", .str "Q"]]]) (hu : A.units + 74 < cLine) (h : Q (.bool (!nameAt xs 2)) s) : wpAny (model prog w) A (compareOp .NotIn (.ref x) (.ref y)) Q E s := by
  subst e
  exact notin_menu F N X hm (fun q hq => hr q (List.mem_of_mem_drop (List.mem_of_mem_take hq))) rb (by decide +kernel) hu (by rw [eqv_name hr]; exact h)
theorem item_told {c : Nat} (N : News h₀ L s.heap news) (hm : (D, W.listOf (xs.map mv).toArray c) ∈ news) (hn : nameAt xs 2 = true) (h : ∀ q, xs[2]? = some q → Q (mv q) s)
    (hs : subscripted slice false (.ref D) (.int 2 u) = operate [.ref D, .int 2 u] (getItem (.ref D) (.int 2 u)) := by with_unfolding_all rfl) :
    wpAny (model prog w) A (subscriptTail value slice (.ref D) (.int 2 u)) Q E s := by
  have hl := PySem.IsL.isList (n := c) (N _ hm).1
  cases e : xs[2]? with
  | none => unfold nameAt at hn; rw [e] at hn; cases hn
  | some q => exact tail_any hl.typeIs slot_list_getitem.lookup (wpAny_getItem_list (k := 2) (x := mv q) hl (by decide) (by decide) (by show (xs.map mv).toArray[2]? = _; simp [e]) (h q e)) hs
end
end Og91
end

/-! CDue -/
section
open Og91
set_option maxRecDepth 100000
set_option maxHeartbeats 8000000
namespace Og91
section
variable {prog : Program} {w : World} {A : Around} {E : Value → Shared → Prop} {s : Shared} {h₀ : Heap} {L : Addr} {m : Str → Option Value} {news : List (Addr × Obj)} {value slice : PySem.Expr} {r : Addr} {vs : List Value} {ns : List Int} {Q : Value → Shared → Prop}
theorem pick_from {vs : List Value} {a : Nat} (ha : a ≤ vs.length) : kms_pick vs (some (a : Int)) none = vs.drop a := by
  unfold kms_pick kms_lo kms_hi
  have h : ¬ ((a : Int) < 0) := by omega
  simp only [h, if_false, Int.toNat_natCast, Nat.min_eq_left ha]
  rw [List.take_of_length_le (by rw [List.length_drop]; exact Nat.le_refl _)]
/-- row[at:] -/
theorem slice_row {a : Nat} {u : Tok} (F : Fr h₀ L s.heap m) (N : News h₀ L s.heap news) (X : (tp.heap_1 w.params).In h₀) (hrow : RowAt w.params news r vs) (hI : IntsAre vs ns) (hlen : ns.length ≤ 11) (ha : a ≤ ns.length)
    (h : ∀ D h' news', Fr h₀ L h' m → News h₀ L h' news' → (∀ p ∈ news, p ∈ news') → ((D, W.listOf (vs.drop a).toArray 0) ∈ news' ∨ TupAt h₀ D (vs.drop a).toArray news') → Q (.ref D) { s with heap := h' })
    (hs : subscripted slice false (.ref r) (.ref s.heap.objs.size) = operate [.ref s.heap.objs.size, .ref r] (getItem (.ref r) (.ref s.heap.objs.size)))
    (hg : ∀ q, letTemporaryGo value (.ref r) q = pure ()) :
    wpAny (model prog w) A (subscriptTail value slice (.ref r) (.ref s.heap.objs.size)) Q E { s with heap := s.heap.push { cls := .type "slice", data := .fields #[.int (a : Int) u, .none, .none] } } := by
  have hv : vs.length = ns.length := hI.length
  rcases hrow with ⟨n, hn⟩ | hT
  · refine kms_slice_lit F N (PySem.IsL.isList (n := n) (N _ hn).1) (IsPart.int (a : Int) u) IsPart.none (zs := vs.drop a) ?_ (fun D h' F' N' _ => h D h' _ F' N' (fun _ hp => .tail _ hp) (.inl (.head _))) hs hg (by rw [List.size_toArray, hv, sizeLine_eq]; omega)
    exact pick_from (show a ≤ vs.length by omega)
  · refine slice_tuple_any F N (hT _ X) (by rw [List.size_toArray]; omega) (fun D h' news' F' N' hsub hD => h D h' news' F' N' hsub (.inr ?_)) hs hg (by rw [List.size_toArray, hv, sizeLine_eq]; omega)
    rcases hD with hD | hD
    · exact .inl hD
    · exact .inr ⟨_, hD, rfl, _, rfl⟩
end
section
variable {prog : Program} {w : World} {A : Around} {h₀ : Heap} {L : Addr} {m mg mb : Str → Option Value} {env : Env} {scope : Scope} {cl : List (Str × Addr)} {p : Program} {loose : List Str} {mean : ExcName → Option Value}
open LCg in
theorem told_src {Fin : Shared → List Value → List (Addr × Obj) → Prop} {ax : Addr} {ws : List Value} {ns : List Int} {news : List (Addr × Obj)} {s₁ : Shared} {p1 p2 p3 : Pos}
    (hm : (ax, W.listOf ws.toArray 0) ∈ news ∨ TupAt h₀ ax ws.toArray news)
    (hh : A.handled = none) (F : Fr h₀ L s₁.heap m) (N : News h₀ L s₁.heap news) (X : (tp.heap_1 w.params).In h₀) (T : Top p loose mean mg mb h₀)
    (hI : IntsAre ws ns) (hr : ∀ r ∈ ns, 0 ≤ r ∧ r ≤ 9) (hlen : ns.length ≤ 11)
    (hg : env.globals = mainGlobals) (hk : ∀ C, (compEnvC scope cl C env).scope.kind = .function) (k1 : ∀ C, (compEnvC scope cl C env).kindOf "_law_MENU" = some .globalImplicit) (k2 : ∀ C, (compEnvC scope cl C env).kindOf "one" = some .local)
    (h : ∀ g, Fin { s₁ with heap := g } (ns.map mv) news) :
    CompSrc prog w A h₀ L m env (.Subscript (.Name "_law_MENU" p1) (.Name "one" p2) p3) "one" scope cl Fin (.ref ax) s₁ ∨ SrcT prog w A h₀ L m env (.Subscript (.Name "_law_MENU" p1) (.Name "one" p2) p3) "one" scope cl Fin (.ref ax) s₁ := by
  have hl : ws.toArray.size = ns.length := by rw [List.size_toArray, hI.length]
  rcases hm with hm | hm
  · refine .inl (CompSrc.ledger hh F N hm (by rw [hl, sizeLine_eq]; omega) fun g => ?_)
    rw [hl]
    exact menu_rest (its := ws.toArray) X T (by simpa using hI) hr (.inr ⟨_, hm, rfl, _, rfl⟩) (h g) hg hk k1 k2 ns.length 0 (by omega)
  · refine .inr ⟨ax, ws.toArray, news, rfl, hh, F, N, hm, by rw [hl, sizeLine_eq]; omega, fun s₂ ⟨g, e⟩ => ?_⟩
    subst e
    rw [hl]
    exact menu_rest (its := ws.toArray) X T (by simpa using hI) hr hm (h g) hg hk k1 k2 ns.length 0 (by omega)
end
theorem ints_drop : ∀ {vs : List Value} {ns : List Int} (_ : IntsAre vs ns) (k : Nat), IntsAre (vs.drop k) (ns.drop k)
  | _, _, h, 0 => by simpa using h
  | _, _, .nil, _ + 1 => .nil
  | _, _, .cons _ _ h, k + 1 => by simpa using ints_drop h k
theorem due_news {h₀ h : Heap} {L : Addr} {x : Addr × Obj} {nw nw' news : List (Addr × Obj)} (N : News h₀ L h (x :: nw)) (hs : ∀ p ∈ news, p ∈ nw') (h1 : ∀ p ∈ nw', p ∈ nw) : News h₀ L h (x :: news) := fun p hp => by
  rcases List.mem_cons.mp hp with e | hp
  · exact N p (e ▸ .head _)
  · exact N p (.tail _ (h1 p (hs p hp)))
theorem due_end {rs xs : List Int} {k : Nat} {b : Bool} (e : rs.drop k = xs) (h : isEnd xs 0 = b) : isEnd rs k = b := by rw [← isEnd_drop, e, h]
theorem due_name {rs xs : List Int} {k : Nat} {b : Bool} (e : rs.drop k = xs) (h : nameAt xs 2 = b) : nameAt rs (k + 2) = b := by rw [← nameAt_drop, e, h]
theorem due_at {rs xs : List Int} {k : Nat} {q : Int} (e : rs.drop k = xs) (h : xs[2]? = some q) : rs[k + 2]? = some q := by rw [← h, ← e, List.getElem?_drop]
theorem due_sign {rs xs : List Int} {k : Nat} {b : Bool} (e : rs.drop k = xs) (h : (kindIs xs 3 "sign" && worthIs xs 3 ".") = b) : (kindIs rs (k + 3) "sign" && worthIs rs (k + 3) ".") = b := by rw [← kindIs_drop, ← worthIs_drop, e, h]
theorem due_err {x : Except Nat Nat} {n k j : Nat} {z : Int} {t : Tok} (hz : (j : Int) = z) (e : x = .error (min (k + j) (n - 1))) (hn : 0 < n) : AnsObj x (tupO #[.none, .int (if (n : Int) - 1 < (k : Int) + z then (n : Int) - 1 else (k : Int) + z) t]) := by
  have h : (if (n : Int) - 1 < (k : Int) + z then (n : Int) - 1 else (k : Int) + z) = ((min (k + j) (n - 1) : Nat) : Int) := by split <;> omega
  rw [h, e]
  exact ⟨t, rfl⟩
theorem due_pos {rs : List Int} {k : Nat} (h : isEnd rs k = true) : 0 < rs.length := Nat.lt_of_le_of_lt (Nat.zero_le _) (isEnd_lt h)
local macro_rules | `(tactic| walk_at "exec Assign cons ListComp") => `(tactic| (k_here; k_dflt (refine assign_T (F₀ := by k_asm) (by rfl) (by with_unfolding_all rfl) (by rfl) (by decide) (by rfl) (by decide) (by rfl) (by rfl) (by rfl) ?_)))
local macro_rules | `(tactic| walk_at "subscriptTail") => `(tactic| (k_here; (with_reducible show wpAny _ _ (subscriptTail (Expr.Name (PySem.Str.ofString "row") _) _ _ _) _ _ _); k_dflt (refine' slice_row ?F ?N ?X ?r ?I ?l ?a ?_ ?s ?t; (case F => k_asm); (case N => k_asm); (case X => k_asm); (case r => assumption); (case I => assumption); (case l => assumption); (case a => assumption); (case s => with_unfolding_all rfl); (case t => kmk_pure); k_whole); intro D8 h8 nw8 F8 N8 sub8 dsc8))
local macro_rules | `(tactic| walk_at "subscriptTail Name Slice ref ref") => `(tactic| (k_here; (with_reducible show wpAny _ _ (subscriptTail (Expr.Name (PySem.Str.ofString "told") _) _ _ _) _ _ _); k_dflt (refine' slice_menu ?F ?N ?m ?l ?p ?q (pick_1 _) ?_ ?s ?t; (case F => k_asm); (case N => k_asm); (case m => k_mem); (case l => assumption); (case p => kmk_part); (case q => kmk_part); (case s => with_unfolding_all rfl); (case t => kmk_pure); k_whole); intro D' h' F' N' l1; (try k_sweep)))
local macro_rules | `(tactic| walk_at "subscriptTail Name Slice ref ref") => `(tactic| (k_here; (with_reducible show wpAny _ _ (subscriptTail (Expr.Name (PySem.Str.ofString "told") _) _ _ _) _ _ _); k_dflt (refine' slice_menu ?F ?N ?m ?l ?p ?q (pick_2 _) ?_ ?s ?t; (case F => k_asm); (case N => k_asm); (case m => k_mem); (case l => assumption); (case p => kmk_part); (case q => kmk_part); (case s => with_unfolding_all rfl); (case t => kmk_pure); k_whole); intro D' h' F' N' l1; (try k_sweep)))
local macro_rules | `(tactic| walk_at "subscriptTail Name Slice ref ref") => `(tactic| (k_here; (with_reducible show wpAny _ _ (subscriptTail (Expr.Name (PySem.Str.ofString "told") _) _ _ _) _ _ _); k_dflt (refine' slice_menu ?F ?N ?m ?l ?p ?q (pick_3 _) ?_ ?s ?t; (case F => k_asm); (case N => k_asm); (case m => k_mem); (case l => assumption); (case p => kmk_part); (case q => kmk_part); (case s => with_unfolding_all rfl); (case t => kmk_pure); k_whole); intro D' h' F' N' l1; (try k_sweep)))
local macro_rules | `(tactic| walk_at "compareOp NotEq ref ref") => `(tactic| (k_here; k_dflt (refine' ne_end ?F ?N ?X ?m ?r ?b ?e ?u ?_; (case F => k_asm); (case N => k_asm); (case X => k_asm); (case m => k_mem); (case r => assumption); (case b => ked_read); (case e => exact rfl); (case u => ke_room); k_whole)))
local macro_rules | `(tactic| walk_at "compareOp NotEq ref ref") => `(tactic| (k_here; k_dflt (refine' ne_sign ?F ?N ?X ?m ?r ?b ?e ?u ?_; (case F => k_asm); (case N => k_asm); (case X => k_asm); (case m => k_mem); (case r => assumption); (case b => ked_read); (case e => exact rfl); (case u => ke_room); k_whole)))
local macro_rules | `(tactic| walk_at "compareOp NotIn ref ref") => `(tactic| (k_here; k_dflt (refine' notin_name ?F ?N ?X ?m ?r ?b ?e ?u ?_; (case F => k_asm); (case N => k_asm); (case X => k_asm); (case m => k_mem); (case r => assumption); (case b => ked_read); (case e => exact rfl); (case u => ke_room); k_whole)))
local macro_rules | `(tactic| walk_at "subscriptTail") => `(tactic| (k_here; (with_reducible show wpAny _ _ (subscriptTail (Expr.Name (PySem.Str.ofString "told") _) _ (Value.ref _) (Value.int 2 _)) _ _ _); k_dflt (refine' item_told ?N ?m ?n ?_ ?s; (case N => k_asm); (case m => k_mem); (case n => assumption); (case s => with_unfolding_all rfl); k_whole); intro q9 e9))
local macro_rules | `(tactic| walk_at "subscriptTail") => `(tactic| (k_here; (with_reducible show wpAny _ _ (subscriptTail _ _ (Value.ref (mref _)) (Value.int 1 _)) _ _ _); k_dflt (refine' menu_word ?F ?X ?a ?b ?_ ?s; (case F => k_asm); (case X => k_asm); (case a => exact row_lo (by assumption) (by assumption)); (case b => exact row_hi (by assumption) (by assumption)); (case s => with_unfolding_all rfl); k_whole); intro t9))
local macro_rules | `(tactic| walk_at "call builtin:len") => `(tactic| (k_here; (with_reducible show wpAny _ _ (call (Value.builtin "len") [Value.ref _]) _ _ _); k_dflt (refine' len_row ?F ?N ?X ?r ?i ?l ?_; (case F => k_asm); (case N => k_asm); (case X => k_asm); (case r => exact RowAt.more (by assumption) (by first | exact fun _ h9 => .tail _ (.tail _ ((by assumption : ∀ p ∈ _, p ∈ _) _ h9)) | exact fun _ h9 => .tail _ (.tail _ (.tail _ ((by assumption : ∀ p ∈ _, p ∈ _) _ h9))) | exact fun _ h9 => .tail _ (.tail _ (.tail _ (.tail _ ((by assumption : ∀ p ∈ _, p ∈ _) _ h9)))) | exact fun _ h9 => .tail _ (.tail _ (.tail _ (.tail _ (.tail _ ((by assumption : ∀ p ∈ _, p ∈ _) _ h9))))) | exact fun _ h9 => .tail _ (.tail _ (.tail _ (.tail _ (.tail _ (.tail _ ((by assumption : ∀ p ∈ _, p ∈ _) _ h9)))))) | exact fun _ h9 => .tail _ (.tail _ (.tail _ (.tail _ (.tail _ (.tail _ (.tail _ ((by assumption : ∀ p ∈ _, p ∈ _) _ h9))))))) | exact fun _ h9 => .tail _ (.tail _ (.tail _ (.tail _ (.tail _ (.tail _ (.tail _ (.tail _ ((by assumption : ∀ p ∈ _, p ∈ _) _ h9)))))))))); (case i => assumption); (case l => assumption); k_whole)))
section
variable {w : World} {p : Program} {loose : List Str} {mean : ExcName → Option Value} {mg mb : Str → Option Value}
theorem due_ok   {dp un : Nat} {gd : Option (List Code)} {cn : Str} {cs : Scope} {a : Addr} {ccd : Value} {cl : List (Str × Addr)} {outer : List Env}
    {A₀ : Around} {base h₀ : Heap} {L : Addr} {m : Str → Option Value} {s : Shared} {Q E : Value → Shared → Prop} {news : List (Addr × Obj)} {r : Addr} {vs : List Value} {rs : List Int} {k : Nat} {nm : Str} {tn ta : Tok}
    (B : Below A₀ base outer h₀) (F : Fr h₀ L s.heap m) (X : (tp.heap_1 w.params).In h₀) (N : News h₀ L s.heap news) (T : Top p loose mean mg mb h₀) (hks : cs.kind = .function)
    (hrow : RowAt w.params news r vs) (hI : IntsAre vs rs) (hr : ∀ x ∈ rs, 0 ≤ x ∧ x ≤ 9) (hlen : rs.length ≤ 11) (hk : k ≤ rs.length)
    (hd : dp + 20 < recursionLimit) (hu : un + 200 < cLine)
    (ret : ∀ D o h' tk', Fr h₀ L h' m → News h₀ L h' ((D, o) :: news) → AnsObj (endSpec rs k nm) o → Q (.ref D) { s with heap := h', toks := tk' }) :
    wpAny (model PySem.Challenge.rw_og0091_01.row.prog w) (ktrTop dp un gd cn cs L a ccd cl outer) (call (.ref 347) [.ref r, .int ((k : Nat) : Int) ta, .str nm tn]) Q E s := by
  revert X
  w_top off
  k_fill
  intro X
  refine wpAny_call ?_
  k_dflt ktr_enter
  k_steps
  k_dflt (refine told_src (by assumption) (by rfl) (by k_asm) (by k_asm) (by k_asm) (by k_asm) (ints_drop (by assumption) _) (fun x hx => hr x (List.mem_of_mem_drop hx)) (by rw [List.length_drop]; omega) rfl (fun _ => rfl) (fun _ => rfl) (fun _ => rfl) ?_)
  intro g9
  unfold LCg.FinA
  intro D9 h9 tk9 F9 N9 o9
  k_sweep
  have hxr : ∀ x ∈ rs.drop k, 0 ≤ x ∧ x ≤ 9 := fun x hx => hr x (List.mem_of_mem_drop hx)
  have hxl : (rs.drop k).length ≤ 11 := by rw [List.length_drop]; omega
  generalize hxs : rs.drop k = xs at *
  change News _ _ _ ((D9, W.listOf (xs.map mv).toArray (xs.map mv).length) :: _) at N9
  k_steps
  · exact ret _ _ _ _ (by assumption) (due_news (by assumption) (by assumption) (by intro p hp; repeat first | exact hp | apply List.Mem.tail)) (due_err (j := 3) rfl (spec_other (due_end hxs (by assumption)) (due_name hxs (by assumption)) (due_at hxs (by assumption)) (by assumption)) (due_pos (due_end hxs (by assumption))))
  · exact ret _ _ _ _ (by assumption) (due_news (by assumption) (by assumption) (by intro p hp; repeat first | exact hp | apply List.Mem.tail)) (ans_ok (spec_yes (due_end hxs (by assumption)) (due_name hxs (by assumption)) (due_at hxs (by assumption)) (by assumption) (due_sign hxs (by assumption))))
  · exact ret _ _ _ _ (by assumption) (due_news (by assumption) (by assumption) (by intro p hp; repeat first | exact hp | apply List.Mem.tail)) (due_err (j := 3) rfl (spec_no (due_end hxs (by assumption)) (due_name hxs (by assumption)) (due_at hxs (by assumption)) (by assumption) (due_sign hxs (by assumption))) (due_pos (due_end hxs (by assumption))))
  · exact ret _ _ _ _ (by assumption) (due_news (by assumption) (by assumption) (by intro p hp; repeat first | exact hp | apply List.Mem.tail)) (due_err (j := 2) rfl (spec_noname (due_end hxs (by assumption)) (due_name hxs (by assumption))) (due_pos (due_end hxs (by assumption))))
  · exact ret _ _ _ _ (by assumption) (due_news (by assumption) (by assumption) (by intro p hp; repeat first | exact hp | apply List.Mem.tail)) (ans_ok (spec_off (due_end hxs (by assumption))))
end
end Og91
end

/-! CTake -/
section
open Og91
set_option maxRecDepth 100000
set_option maxHeartbeats 8000000
namespace Og91
def bodyOf : Stmt → List Stmt
  | .FunctionDef _ _ b _ _ _ _ _ _ _ => b
  | _ => []
def takeStmt : Stmt := (bodyOf (theBody.getD 15 (.Pass ⟨0,0,0,0⟩))).getD 3 (.Pass ⟨0,0,0,0⟩)

section
variable {prog : Program} {w : World} {A : Around} {E : Value → Shared → Prop} {s : Shared} {h₀ : Heap} {L : Addr} {m : Str → Option Value} {news : List (Addr × Obj)} {pl : Addr} {k n : Int} {tk t u : Tok} {c : Nat} {Q : Value → Shared → Prop}
theorem item_one {value slice : PySem.Expr} (N : News h₀ L s.heap news) (hm : (pl, W.listOf #[.int k tk] c) ∈ news) (h : ∀ t, Q (.int k t) s)
    (hs : subscripted slice false (.ref pl) (.int 0 u) = operate [.ref pl, .int 0 u] (getItem (.ref pl) (.int 0 u)) := by with_unfolding_all rfl) :
    wpAny (model prog w) A (subscriptTail value slice (.ref pl) (.int 0 u)) Q E s :=
  ksa_sub (vs := [.int k tk]) (ns := [k]) N hm (.cons k tk .nil) (Int.le_refl _) (by simp) (by decide) h hs
theorem fdiv_lvl (h0 : 0 ≤ k) (hk : k ≤ 60) (hn : 0 < n) (hn' : n ≤ 63) (h : ∀ lv t, 0 ≤ lv → lv ≤ 60 → Q (.int lv t) { s with toks := s.toks + 1 }) :
    wpAny (model prog w) A (binaryOp .FloorDiv (.int k t) (.int n u)) Q E s := by
  have a : 0 ≤ k.fdiv n := Int.fdiv_nonneg h0 (by omega)
  have b : k.fdiv n ≤ k := by
    rw [Int.fdiv_eq_ediv_of_nonneg _ (by omega)]
    exact Int.ediv_le_self n h0
  exact floordiv_int (by omega) (h _ _ a (by omega)) (Or.inl (PyProof.noPylong_small (by omega)))
def Mild (P : Int) : Prop := 0 < P ∧ P.natAbs.log2 < 9000
theorem mild_pow : ∀ n : Nat, n ≤ 60 → Mild ((720720 : Int) ^ n) := by
  intro n hn
  refine ⟨Int.pow_pos (by decide), ?_⟩
  rw [Int.natAbs_pow]
  have h1 : (720720 : Int).natAbs ^ n ≤ 2 ^ (20 * n) := by
    rw [Nat.pow_mul]
    exact Nat.pow_le_pow_left (by decide) n
  have h2 : (720720 : Int).natAbs ^ n < 2 ^ 9000 := Nat.lt_of_le_of_lt h1 (Nat.pow_lt_pow_right (by decide) (by omega))
  exact Nat.log2_lt (by exact Nat.ne_of_gt (Nat.pow_pos (by decide))) |>.mpr h2
theorem pow_lvl {lv : Int} (h0 : 0 ≤ lv) (hk : lv ≤ 60) (h : ∀ P t, Mild P → Q (.int P t) { s with toks := s.toks + 1 }) :
    wpAny (model prog w) A (binaryOp .Pow (.int 720720 t) (.int lv u)) Q E s :=
  pow_int_small h0 (by omega) (by decide) (h _ _ (mild_pow _ (by omega)))
theorem fdiv_mild {x P : Int} (hP : Mild P) (h : ∀ v t, Q (.int v t) { s with toks := s.toks + 1 }) :
    wpAny (model prog w) A (binaryOp .FloorDiv (.int x t) (.int P u)) Q E s :=
  floordiv_int (by have := hP.1; omega) (h _ _) (Or.inl (PyProof.noPylong_of_log2 hP.2))
theorem fmod_lim {x l : Int} (hl : 0 < l) (h : ∀ v t, 0 ≤ v → v < l → Q (.int v t) { s with toks := s.toks + 1 }) :
    wpAny (model prog w) A (binaryOp .Mod (.int x t) (.int l u)) Q E s :=
  mod_int (by omega) (h _ _ (Int.fmod_nonneg_of_pos _ hl) (Int.fmod_lt_of_pos _ hl))
end
local macro_rules | `(tactic| walk_at "subscriptTail Name Constant ref int") => `(tactic| (k_here; (with_reducible show wpAny _ _ (subscriptTail _ _ (Value.ref _) (Value.int 0 _)) _ _ _); k_dflt (refine' item_one ?N ?m ?_ ?s; (case N => with_reducible assumption); (case m => k_mem); (case s => with_unfolding_all rfl); k_whole); intro _))
local macro_rules | `(tactic| walk_at "binaryOp FloorDiv int int") => `(tactic| (k_here; k_dflt (first | (refine' fdiv_lvl ?a ?b ?c ?d ?_; (case a => assumption); (case b => assumption); (case c => omega); (case d => omega); k_whole; intro _ _ _ _) | (refine' fdiv_mild ?a ?_; (case a => assumption); k_whole; intro _ _))))
local macro_rules | `(tactic| walk_at "binaryOp Pow int int") => `(tactic| (k_here; k_dflt (refine' pow_lvl ?a ?b ?_; (case a => assumption); (case b => assumption); k_whole); intro _ _ _))
local macro_rules | `(tactic| k_all) => `(tactic| assumption)
local macro_rules | `(tactic| walk_at "eval Name") => `(tactic| (k_here; (with_reducible show wpAny _ _ (eval (Expr.Name _ _) (envX _ _ _ _ _ _)) _ _ _); k_dflt (refine' nameX_F ?N ?c ?m ?d ?_ ?a ?b; (case b => exact rfl); (case a => exact rfl); (case N => with_reducible assumption); (case c => exact rfl); (case m => k_mem); (case d => with_reducible assumption); k_whole)))
theorem take_ok {w : World} {p : Program} {loose : List Str} {mean : ExcName → Option Value} {mg mb : Str → Option Value} {dp un : Nat} {gd : Option (List Code)} {cn : Str} {cs : Scope} {a : Addr} {ccd : Value} {clx : List (Str × Addr)} {outer : List Env}
    {A₀ : Around} {base h₀ : Heap} {L : Addr} {m : Str → Option Value} {s : Shared} {Q E : Value → Shared → Prop} {f c pl cl cp cc : Addr} {oc oP oC : Obj} {vs : List Value} {ns : List Int} {k lim : Int} {tk tl : Tok} {n1 n2 : Nat} {news : List (Addr × Obj)}
    {params : Arguments} {body : List Stmt} {scope : Scope} {ret : Option PySem.Expr} {tps : List TypeParam} {ts : Option Scope} {bd : Str} {ps : Pos} {qual : Str} {doc pm ctv : Value} {tq : Tok} {cvs : Array Value}
    (hfn : takeStmt = .FunctionDef "take" params body [] ret tps scope ts bd ps)
    (B : Below A₀ base outer h₀) (F : Fr h₀ L s.heap m) (X : (tp.heap_1 w.params).In h₀)
    (N : News h₀ L s.heap ((f, fnMade "take" qual params body scope [("place", cp), ("cells", cc)] doc pm c ctv) :: (c, oc) :: (pl, W.listOf #[.int k tk] n1) :: (cl, W.listOf vs.toArray n2) :: (cp, oP) :: (cc, oC) :: news))
    (T : Top p loose mean mg mb h₀) (hk : cs.kind = .function) (hoP : oP.data = .cell (some (.ref pl))) (hoC : oC.data = .cell (some (.ref cl))) (hoc : oc.data = .fields cvs) (hocq : cvs[1]? = some (.str qual tq))
    (hI : IntsAre vs ns) (hne : ns ≠ []) (hlen : ns.length ≤ 63) (h0 : 0 ≤ k) (hk60 : k ≤ 60) (hl : 0 < lim) (hl' : lim ≤ 100)
    (off : ∀ q ∈ news, q.1 ≠ pl) (o1 : @Ne Nat f pl) (o2 : @Ne Nat c pl) (o3 : @Ne Nat cl pl) (o4 : @Ne Nat cp pl) (o5 : @Ne Nat cc pl)
    (hd : dp + 10 < recursionLimit) (hu : un + 20 < cLine)
    (ret : ∀ v t h' tk' t' n1', 0 ≤ v → v < lim → Fr h₀ L h' m → News h₀ L h' ((f, fnMade "take" qual params body scope [("place", cp), ("cells", cc)] doc pm c ctv) :: (c, oc) :: (pl, W.listOf #[.int (k + 1) t'] n1') :: (cl, W.listOf vs.toArray n2) :: (cp, oP) :: (cc, oC) :: news) →
      Q (.int v t) { s with heap := h', toks := tk' }) :
    wpAny (model PySem.Challenge.rw_og0091_01.row.prog w) (ktrTop dp un gd cn cs L a ccd clx outer) (call (.ref f) [.int lim tl]) Q E s := by
  revert X
  w_top off
  k_fill
  intro X
  simp only [takeStmt, theBody, PySem.Challenge.pw_og0091_01, List.getD_cons_succ, List.getD_cons_zero, bodyOf, Stmt.FunctionDef.injEq] at hfn
  obtain ⟨_, rfl, rfl, _, _, _, rfl, _, _, _⟩ := hfn
  refine wpAny_call ?_
  k_dflt (refine' code_nest (K := tp.heap_1 w.params) B F X N T rfl rfl hk (.head _) (codeRec_news N (.tail _ (.head _)) hoc hocq) ?room (BindsTo.of_eq rfl) (locs rfl) ?_ rfl rfl rfl (by decide))
  case room => (dsimp only [ktrTop]; omega)
  intro g' L' h' FG' F' N' B' X' T'
  (try dsimp only)
  (try k_fold)
  have hpos : 0 < ns.length := by cases ns with | nil => exact absurd rfl hne | cons => exact Nat.succ_pos _
  k_steps
  exact ret _ _ _ _ _ _ (Int.fmod_nonneg_of_pos _ hl) (Int.fmod_lt_of_pos _ hl) (by assumption) (by assumption)
end Og91
end

/-! LawA -/
section
open Og91
set_option maxRecDepth 100000
set_option maxHeartbeats 8000000
namespace Og91
def lawStmt : Stmt := theBody.getD 18 (.Pass ⟨0,0,0,0⟩)
def scopeOf : Stmt → Scope
  | .FunctionDef _ _ _ _ _ _ sc _ _ _ => sc
  | _ => { kind := .function, names := [], isGenerator := false, isCoroutine := false, more := [] }
def forBody : Stmt → List Stmt
  | .For _ _ b _ _ => b
  | _ => []
def forTarget : Stmt → PySem.Expr
  | .For t _ _ _ _ => t
  | _ => .Constant .none 0 ⟨0,0,0,0⟩
def lawPart (i : Nat) : Stmt := (bodyOf lawStmt).getD i (.Pass ⟨0,0,0,0⟩)
/-- the pair, as data -/
def ansData : Except Nat Nat → PyData
  | .ok k => .tuple [.int (k : Int), .none]
  | .error q => .tuple [.none, .int (q : Int)]
theorem ans_reads {g : Heap} {D : Addr} {o : Obj} {x : Except Nat Nat} (hg : g.get? D = some o) (h : AnsObj x o) : ∃ as, Reads g (.ref D) (ansData x) as := by
  cases x with
  | ok k =>
    obtain ⟨t, rfl⟩ := h
    exact reads_tup (vs := [.int (k : Int) t, .none]) ⟨_, hg, rfl, _, rfl⟩ (.cons (.int _ _) (.cons .none .nil))
  | error q =>
    obtain ⟨t, rfl⟩ := h
    exact reads_tup (vs := [.none, .int (q : Int) t]) ⟨_, hg, rfl, _, rfl⟩ (.cons .none (.cons (.int _ _) .nil))
theorem ans_shaped (x : Except Nat Nat) : SeqAt.shaped (ansData x) = true := by
  cases x <;> simp [ansData, SeqAt.shaped, PyData.canLay0, PyData.canLayAll0, PyData.depth, PyData.depthAll]
theorem ans_eqv (x : Except Nat Nat) : PyData.eqv (ansData x) (ansData x) = true := by
  cases x <;> simp [ansData, PyData.eqv, PyData.eqvAll]
section
variable {prog : Program} {w : World} {A : Around} {E : Value → Shared → Prop} {s : Shared} {h₀ : Heap} {L : Addr} {m : Str → Option Value} {news : List (Addr × Obj)} {Q : Value → Shared → Prop}
theorem ne_ans {D d : Addr} {o o' : Obj} {x : Except Nat Nat} (h1 : s.heap.get? D = some o) (h2 : s.heap.get? d = some o') (a1 : AnsObj x o) (a2 : AnsObj x o') (hu : A.units + 64 < cLine) (h : Q (.bool false) s) : wpAny (model prog w) A (compareOp .NotEq (.ref D) (.ref d)) Q E s := by
  obtain ⟨_, r1⟩ := ans_reads h1 a1
  obtain ⟨_, r2⟩ := ans_reads h2 a2
  exact ne_dataH r1 r2 (ans_shaped x) (ans_shaped x) hu (by rw [ans_eqv]; exact h)
theorem ne_due {P : Params} {D d : Addr} {o o' : Obj} {x : Except Nat Nat} (F : Fr h₀ L s.heap m) (X : (tp.heap_1 P).In h₀) (N : News h₀ L s.heap news) (hm : (D, o) ∈ news) (hd : (tp.heap_1 P).lookup d = some o') (a1 : AnsObj x o) (a2 : AnsObj x o') (hu : A.units + 64 < cLine) (h : Q (.bool false) s) :
    wpAny (model prog w) A (compareOp .NotEq (.ref D) (.ref d)) Q E s := ne_ans (N _ hm).1 (F.keep _ _ (X _ _ hd)) a1 a2 hu h
end
end Og91
end

/-! LawB -/
section
open Og91
set_option maxRecDepth 100000
set_option maxHeartbeats 8000000
namespace Og91
local macro_rules | `(tactic| walk_at "pad") => `(tactic| fail "no line")
local macro_rules | `(tactic| walk_at "assign Tuple") => `(tactic| (k_here; (with_reducible show wpAny _ _ (assign (Expr.Tuple _ _ _) _ (Value.ref _)) _ _ _); k_dflt (refine' unpackK ?F ?N ?X ?k ?c ?d ?k1 ?k2 ?k3 ?_; (case F => k_asm); (case N => k_asm); (case X => k_asm); (case k => assumption); (case c => exact rfl); (case d => exact rfl); (case k1 => exact rfl); (case k2 => exact rfl); (case k3 => exact rfl)); intro h' F' N'; (try k_sweep)))
local macro_rules | `(tactic| walk_at "call ref") => `(tactic| (k_here; (with_reducible show wpAny _ _ (call (Value.ref 347) _) _ _ _); k_dflt (refine' due_ok (rs := _) ?B ?F ?X ?N ?T ?K ?row ?I ?r ?l ?k ?hd ?hu ?_; (case B => k_asm); (case F => k_asm); (case X => k_asm); (case N => k_asm); (case T => k_asm); (case K => exact rfl); (case row => exact .inr (by assumption)); (case I => assumption); (case r => assumption); (case l => assumption); (case k => assumption); (case hd => ktr_room); (case hu => ktr_units); k_whole); intro D9 o9 h9 tk9 F9 N9 a9; (try k_sweep)))
local macro_rules | `(tactic| walk_at "call ref") => `(tactic| (k_here; (with_reducible show wpAny _ _ (call (Value.ref 342) _) _ _ _); k_dflt (refine' answer_ok (rs := _) ?B ?F ?X ?N ?T ?K ?XB ?TB ?row ?I ?r ?l ?k ?hd ?hu ?_; (case B => k_asm); (case F => k_asm); (case X => k_asm); (case N => k_asm); (case T => k_asm); (case K => exact rfl); (case XB => k_asm); (case TB => k_asm); (case row => exact .inr (by assumption)); (case I => assumption); (case r => assumption); (case l => assumption); (case k => assumption); (case hd => ktr_room); (case hu => ktr_units); k_whole); intro D9 o9 h9 tk9 F9 N9 a9; (try k_sweep)))
local macro_rules | `(tactic| walk_at "compareOp NotEq ref ref") => `(tactic| (k_here; k_dflt (refine' ne_due ?F ?X ?N (.head _) ?h2 ?a1 ?a2 ?hu ?_; (case F => k_asm); (case X => k_asm); (case N => k_asm); (case h2 => assumption); (case a1 => assumption); (case a2 => assumption); (case hu => ke_room); k_whole)))
theorem written_turn {w : World} {p : Program} {loose : List Str} {mean : ExcName → Option Value} {mg mb : Str → Option Value} {h₀ : Heap} {L a : Addr} {cd : Value} {m : Str → Option Value} {s : Shared} {Q : Flow → Shared → Prop} {E : Value → Shared → Prop} {news : List (Addr × Obj)}
    {t r d : Addr} {k : Nat} {tk : Tok} {od : Obj} {vs : List Value} {rs : List Int}
    (B : Below callerA h₀ [] h₀) (F : Fr h₀ L s.heap m) (X : (tp.heap_1 w.params).In h₀) (N : News h₀ L s.heap news) (T : Top p loose mean mg mb h₀)
    (ht : (tp.heap_1 w.params).lookup t = some (tupO #[.ref r, .int (k : Int) tk, .ref d])) (hrow : ∀ g, (tp.heap_1 w.params).In g → IsTup g r vs.toArray)
    (hI : IntsAre vs rs) (hr : ∀ x ∈ rs, 0 ≤ x ∧ x ≤ 9) (hlen : rs.length ≤ 11) (hk : k ≤ rs.length)
    (hd : (tp.heap_1 w.params).lookup d = some od) (hD : AnsObj (endSpec rs k "P") od)
    (done : ∀ h' tk' m', Fr h₀ L h' m' → News h₀ L h' news → Q .next { s with heap := h', toks := tk' }) :
    wpAny (model PySem.Challenge.rw_og0091_01.row.prog w) (callerA.deeper (envOfC "law" (scopeOf lawStmt) L a cd)) (assign (forTarget (lawPart 1)) (envOfC "law" (scopeOf lawStmt) L a cd) (.ref t))
      (fun _ s₂ => wpAny (model PySem.Challenge.rw_og0091_01.row.prog w) (callerA.deeper (envOfC "law" (scopeOf lawStmt) L a cd)) (execs (forBody (lawPart 1)) (envOfC "law" (scopeOf lawStmt) L a cd)) Q E s₂) E s := by
  simp only [lawPart, lawStmt, scopeOf, forBody, forTarget, bodyOf, theBody, PySem.Challenge.pw_og0091_01, List.getD_cons_succ, List.getD_cons_zero]
  revert X
  w_top off
  k_fill
  intro X
  (try k_fold)
  k_steps
  exact done _ _ _ (by assumption) (fun q hq => (by assumption : News _ _ _ _) q (.tail _ (.tail _ hq)))
end Og91
end

/-! LawC -/
section
open Og91
set_option maxRecDepth 100000
set_option maxHeartbeats 8000000
namespace Og91
def WrOk (P : Params) (t : Addr) : Prop :=
  ∃ (r d : Addr) (k : Nat) (tk : Tok) (od : Obj) (vs : List Value) (rs : List Int), (tp.heap_1 P).lookup t = some (tupO #[.ref r, .int (k : Int) tk, .ref d]) ∧ (∀ g, (tp.heap_1 P).In g → IsTup g r vs.toArray) ∧
    IntsAre vs rs ∧ (∀ x ∈ rs, 0 ≤ x ∧ x ≤ 9) ∧ rs.length ≤ 11 ∧ k ≤ rs.length ∧ (tp.heap_1 P).lookup d = some od ∧ AnsObj (endSpec rs k "P") od
theorem ans_er {x : Except Nat Nat} {q : Nat} {t : Tok} (e : x = .error q) : AnsObj x (tupO #[.none, .int (q : Int) t]) := by rw [e]; exact ⟨t, rfl⟩
def wrs : List Addr := [293, 296, 299, 302, 305, 308, 311, 314, 317, 320, 323, 326, 329]
section
variable {P : Params}
theorem wr_293 : WrOk P 293 :=
  ⟨291, 292, 0, 548, tupO #[.int 4 549, .none], [.int 0 544, .int 1 545, .int 2 546, .int 3 547], [0, 1, 2, 3], by kernel_rfl, fun g X => tupK (dd := none) (n := 0) (sl := #[]) X (by kernel_rfl), .cons 0 544 (.cons 1 545 (.cons 2 546 (.cons 3 547 .nil))), by decide, by decide, by decide, by kernel_rfl, ans_ok (show endSpec [0, 1, 2, 3] 0 "P" = .ok 4 by kernel_rfl)⟩
theorem wr_296 : WrOk P 296 :=
  ⟨294, 295, 0, 555, tupO #[.int 4 556, .none], [.int 0 550, .int 1 551, .int 2 552, .int 3 553, .int 0 554], [0, 1, 2, 3, 0], by kernel_rfl, fun g X => tupK (dd := none) (n := 0) (sl := #[]) X (by kernel_rfl), .cons 0 550 (.cons 1 551 (.cons 2 552 (.cons 3 553 (.cons 0 554 .nil)))), by decide, by decide, by decide, by kernel_rfl, ans_ok (show endSpec [0, 1, 2, 3, 0] 0 "P" = .ok 4 by kernel_rfl)⟩
theorem wr_299 : WrOk P 299 :=
  ⟨297, 298, 0, 561, tupO #[.none, .int 3 562], [.int 0 557, .int 1 558, .int 4 559, .int 3 560], [0, 1, 4, 3], by kernel_rfl, fun g X => tupK (dd := none) (n := 0) (sl := #[]) X (by kernel_rfl), .cons 0 557 (.cons 1 558 (.cons 4 559 (.cons 3 560 .nil))), by decide, by decide, by decide, by kernel_rfl, ans_er (show endSpec [0, 1, 4, 3] 0 "P" = .error 3 by kernel_rfl)⟩
theorem wr_302 : WrOk P 302 :=
  ⟨300, 301, 0, 567, tupO #[.none, .int 2 568], [.int 0 563, .int 1 564, .int 5 565, .int 3 566], [0, 1, 5, 3], by kernel_rfl, fun g X => tupK (dd := none) (n := 0) (sl := #[]) X (by kernel_rfl), .cons 0 563 (.cons 1 564 (.cons 5 565 (.cons 3 566 .nil))), by decide, by decide, by decide, by kernel_rfl, ans_er (show endSpec [0, 1, 5, 3] 0 "P" = .error 2 by kernel_rfl)⟩
theorem wr_305 : WrOk P 305 :=
  ⟨303, 304, 0, 571, tupO #[.none, .int 1 572], [.int 0 569, .int 1 570], [0, 1], by kernel_rfl, fun g X => tupK (dd := none) (n := 0) (sl := #[]) X (by kernel_rfl), .cons 0 569 (.cons 1 570 .nil), by decide, by decide, by decide, by kernel_rfl, ans_er (show endSpec [0, 1] 0 "P" = .error 1 by kernel_rfl)⟩
theorem wr_308 : WrOk P 308 :=
  ⟨306, 307, 0, 576, tupO #[.none, .int 2 577], [.int 0 573, .int 1 574, .int 2 575], [0, 1, 2], by kernel_rfl, fun g X => tupK (dd := none) (n := 0) (sl := #[]) X (by kernel_rfl), .cons 0 573 (.cons 1 574 (.cons 2 575 .nil)), by decide, by decide, by decide, by kernel_rfl, ans_er (show endSpec [0, 1, 2] 0 "P" = .error 2 by kernel_rfl)⟩
theorem wr_311 : WrOk P 311 :=
  ⟨309, 310, 0, 581, tupO #[.none, .int 2 582], [.int 0 578, .int 1 579, .int 4 580], [0, 1, 4], by kernel_rfl, fun g X => tupK (dd := none) (n := 0) (sl := #[]) X (by kernel_rfl), .cons 0 578 (.cons 1 579 (.cons 4 580 .nil)), by decide, by decide, by decide, by kernel_rfl, ans_er (show endSpec [0, 1, 4] 0 "P" = .error 2 by kernel_rfl)⟩
theorem wr_314 : WrOk P 314 :=
  ⟨312, 313, 0, 587, tupO #[.none, .int 3 588], [.int 0 583, .int 1 584, .int 2 585, .int 9 586], [0, 1, 2, 9], by kernel_rfl, fun g X => tupK (dd := none) (n := 0) (sl := #[]) X (by kernel_rfl), .cons 0 583 (.cons 1 584 (.cons 2 585 (.cons 9 586 .nil))), by decide, by decide, by decide, by kernel_rfl, ans_er (show endSpec [0, 1, 2, 9] 0 "P" = .error 3 by kernel_rfl)⟩
theorem wr_317 : WrOk P 317 :=
  ⟨315, 316, 0, 592, tupO #[.int 0 593, .none], [.int 0 589, .int 2 590, .int 3 591], [0, 2, 3], by kernel_rfl, fun g X => tupK (dd := none) (n := 0) (sl := #[]) X (by kernel_rfl), .cons 0 589 (.cons 2 590 (.cons 3 591 .nil)), by decide, by decide, by decide, by kernel_rfl, ans_ok (show endSpec [0, 2, 3] 0 "P" = .ok 0 by kernel_rfl)⟩
theorem wr_320 : WrOk P 320 :=
  ⟨318, 319, 0, 596, tupO #[.int 0 597, .none], [.int 1 594, .int 0 595], [1, 0], by kernel_rfl, fun g X => tupK (dd := none) (n := 0) (sl := #[]) X (by kernel_rfl), .cons 1 594 (.cons 0 595 .nil), by decide, by decide, by decide, by kernel_rfl, ans_ok (show endSpec [1, 0] 0 "P" = .ok 0 by kernel_rfl)⟩
theorem wr_323 : WrOk P 323 :=
  ⟨321, 322, 0, 598, tupO #[.int 0 599, .none], [], [], by kernel_rfl, fun g X => tupK (dd := none) (n := 0) (sl := #[]) X (by kernel_rfl), .nil, by decide, by decide, by decide, by kernel_rfl, ans_ok (show endSpec [] 0 "P" = .ok 0 by kernel_rfl)⟩
theorem wr_326 : WrOk P 326 :=
  ⟨324, 325, 1, 605, tupO #[.int 5 606, .none], [.int 3 600, .int 0 601, .int 1 602, .int 2 603, .int 3 604], [3, 0, 1, 2, 3], by kernel_rfl, fun g X => tupK (dd := none) (n := 0) (sl := #[]) X (by kernel_rfl), .cons 3 600 (.cons 0 601 (.cons 1 602 (.cons 2 603 (.cons 3 604 .nil)))), by decide, by decide, by decide, by kernel_rfl, ans_ok (show endSpec [3, 0, 1, 2, 3] 1 "P" = .ok 5 by kernel_rfl)⟩
theorem wr_329 : WrOk P 329 :=
  ⟨327, 328, 0, 611, tupO #[.none, .int 2 612], [.int 0 607, .int 1 608, .int 7 609, .int 3 610], [0, 1, 7, 3], by kernel_rfl, fun g X => tupK (dd := none) (n := 0) (sl := #[]) X (by kernel_rfl), .cons 0 607 (.cons 1 608 (.cons 7 609 (.cons 3 610 .nil))), by decide, by decide, by decide, by kernel_rfl, ans_er (show endSpec [0, 1, 7, 3] 0 "P" = .error 2 by kernel_rfl)⟩
theorem wr_all : ∀ t ∈ wrs, WrOk P t := by
  intro t ht
  simp only [wrs, List.mem_cons, List.not_mem_nil, or_false] at ht
  rcases ht with rfl | rfl | rfl | rfl | rfl | rfl | rfl | rfl | rfl | rfl | rfl | rfl | rfl
  · exact wr_293
  · exact wr_296
  · exact wr_299
  · exact wr_302
  · exact wr_305
  · exact wr_308
  · exact wr_311
  · exact wr_314
  · exact wr_317
  · exact wr_320
  · exact wr_323
  · exact wr_326
  · exact wr_329
end
theorem wr_rest {w : World} {p : Program} {loose : List Str} {mean : ExcName → Option Value} {mg mb : Str → Option Value} {h₀ : Heap} {L a I : Addr} {cd : Value} {s : Shared} {Q : Flow → Shared → Prop} {E : Value → Shared → Prop} {news : List (Addr × Obj)}
    (B : Below callerA h₀ [] h₀) (X : (tp.heap_1 w.params).In h₀) (T : Top p loose mean mg mb h₀) (hI : ∀ q ∈ news, q.1 < I)
    (done : ∀ h' tk' m', Fr h₀ L h' m' → News h₀ L h' news → Q .next { s with heap := h', toks := tk' }) :
    ∀ (ts : List Addr), (∀ t ∈ ts, WrOk w.params t) → ∀ m, ItemsRest PySem.Challenge.rw_og0091_01.row.prog w (callerA.deeper (envOfC "law" (scopeOf lawStmt) L a cd)) E h₀ (envOfC "law" (scopeOf lawStmt) L a cd) (forTarget (lawPart 1)) (forBody (lawPart 1)) Q s [(I, "tuple_iterator")] [] (ts.map fun t => .val (.ref t)) m news
  | [], _, m => ItemsRest.zero fun h tk F N => done h tk m F N
  | t :: ts, ht, m => by
    obtain ⟨r, d, k, tk, od, vs, rs, h1, h2, h3, h4, h5, h6, h7, h8⟩ := ht t (.head _)
    have ih := wr_rest (p := p) (loose := loose) (mean := mean) (mg := mg) (mb := mb) (a := a) (cd := cd) (E := E) B X T hI done ts fun t h => ht t (.tail _ h)
    refine ItemsRest.val fun h tk F => AllObj.cons fun o ho => AllObj.nil fun N => ?_
    refine written_turn (s := { s with heap := h, toks := tk }) B F X N T h1 h2 h3 h4 h5 h6 h7 h8 fun h' tk' m' F' N' => ?_
    exact ⟨h', tk', m', news, rfl, F', N', fun q hq z hz => by rw [List.mem_singleton.mp hz]; exact Nat.ne_of_lt (hI q hq), trivial, ih m'⟩
end Og91
end

/-! LawD -/
section
open Og91
set_option maxRecDepth 100000
set_option maxHeartbeats 8000000
namespace Og91
/-- the closure's own objects, but for the place's list -/
def TkC (news : List (Addr × Obj)) (f pl : Addr) : Prop :=
  ∃ (c cl cp cc : Addr) (oc oP oC : Obj) (vs : List Value) (ns : List Int) (n2 : Nat) (params : Arguments) (body : List Stmt) (scope : Scope) (ret : Option PySem.Expr) (tps : List TypeParam) (ts : Option Scope) (bd : Str) (ps : Pos) (qual : Str) (doc pm ctv : Value) (tq : Tok) (cvs : Array Value),
    takeStmt = .FunctionDef "take" params body [] ret tps scope ts bd ps ∧ (f, fnMade "take" qual params body scope [("place", cp), ("cells", cc)] doc pm c ctv) ∈ news ∧ (c, oc) ∈ news ∧ (cl, W.listOf vs.toArray n2) ∈ news ∧ (cp, oP) ∈ news ∧ (cc, oC) ∈ news ∧
    oP.data = .cell (some (.ref pl)) ∧ oC.data = .cell (some (.ref cl)) ∧ oc.data = .fields cvs ∧ cvs[1]? = some (.str qual tq) ∧ IntsAre vs ns ∧ ns ≠ [] ∧ ns.length ≤ 63
theorem TkC.mono {news news' : List (Addr × Obj)} {f pl : Addr} (h : TkC news f pl) (hs : ∀ p ∈ news, p ∈ news') : TkC news' f pl := by
  obtain ⟨c, cl, cp, cc, oc, oP, oC, vs, ns, n2, params, body, scope, ret, tps, ts, bd, ps, qual, doc, pm, ctv, tq, cvs, e, m1, m2, m3, m4, m5, r⟩ := h
  exact ⟨c, cl, cp, cc, oc, oP, oC, vs, ns, n2, params, body, scope, ret, tps, ts, bd, ps, qual, doc, pm, ctv, tq, cvs, e, hs _ m1, hs _ m2, hs _ m3, hs _ m4, hs _ m5, r⟩
theorem TkC.fn {news : List (Addr × Obj)} {f pl : Addr} (h : TkC news f pl) : ∃ (oc : Value) (od : Option Addr) (fd : FuncData) (sl : Array (Option Value)), (f, (⟨oc, od, .func fd, sl⟩ : Obj)) ∈ news := by
  obtain ⟨c, cl, cp, cc, oc, oP, oC, vs, ns, n2, params, body, scope, ret, tps, ts, bd, ps, qual, doc, pm, ctv, tq, cvs, e, m1, r⟩ := h
  exact ⟨_, _, _, _, m1⟩
theorem take_use {w : World} {p : Program} {loose : List Str} {mean : ExcName → Option Value} {mg mb : Str → Option Value} {dp un : Nat} {gd : Option (List Code)} {cn : Str} {cs : Scope} {a : Addr} {ccd : Value} {clx : List (Str × Addr)} {outer : List Env}
    {A₀ : Around} {base h₀ : Heap} {L : Addr} {m : Str → Option Value} {s : Shared} {Q E : Value → Shared → Prop} {f pl : Addr} {k lim : Int} {tk tl : Tok} {n1 : Nat} {rest all : List (Addr × Obj)} {g : Obj → List (Addr × Obj)}
    (B : Below A₀ base outer h₀) (F : Fr h₀ L s.heap m) (X : (tp.heap_1 w.params).In h₀) (N : News h₀ L s.heap all) (T : Top p loose mean mg mb h₀) (hk : cs.kind = .function)
    (U : UpdF pl (W.listOf #[.int k tk] n1) all g) (sub : ∀ q ∈ rest, q ∈ all) (C : TkC rest f pl) (off : ∀ q ∈ rest, q.1 ≠ pl)
    (h0 : 0 ≤ k) (hk60 : k ≤ 60) (hl : 0 < lim) (hl' : lim ≤ 100) (hd : dp + 10 < recursionLimit) (hu : un + 20 < cLine)
    (ret : ∀ (v : Nat) t h' tk' t' n', (v : Int) < lim → Fr h₀ L h' m → News h₀ L h' (g (W.listOf #[.int (k + 1) t'] n')) → Q (.int (v : Int) t) { s with heap := h', toks := tk' }) :
    wpAny (model PySem.Challenge.rw_og0091_01.row.prog w) (ktrTop dp un gd cn cs L a ccd clx outer) (call (.ref f) [.int lim tl]) Q E s := by
  obtain ⟨pre, post, rfl, hg, hpre, hpost⟩ := U.split
  obtain ⟨c, cl, cp, cc, oc, oP, oC, vs, ns, n2, params, body, scope, rt, tps, ts, bd, ps, qual, doc, pm, ctv, tq, cvs, e, m1, m2, m3, m4, m5, d1, d2, d3, d4, hI, hne, hlen⟩ := C
  have N1 : News h₀ L s.heap ((f, fnMade "take" qual params body scope [("place", cp), ("cells", cc)] doc pm c ctv) :: (c, oc) :: (pl, W.listOf #[.int k tk] n1) :: (cl, W.listOf vs.toArray n2) :: (cp, oP) :: (cc, oC) :: (pre ++ post)) := fun q hq => N q (by
    rcases List.mem_cons.mp hq with h | hq
    · exact h ▸ sub _ m1
    rcases List.mem_cons.mp hq with h | hq
    · exact h ▸ sub _ m2
    rcases List.mem_cons.mp hq with h | hq
    · exact h ▸ List.mem_append_right _ (.head _)
    rcases List.mem_cons.mp hq with h | hq
    · exact h ▸ sub _ m3
    rcases List.mem_cons.mp hq with h | hq
    · exact h ▸ sub _ m4
    rcases List.mem_cons.mp hq with h | hq
    · exact h ▸ sub _ m5
    rcases List.mem_append.mp hq with hq | hq
    · exact List.mem_append_left _ hq
    · exact List.mem_append_right _ (.tail _ hq))
  refine take_ok e B F X N1 T hk d1 d2 d3 d4 hI hne hlen h0 hk60 hl hl' (fun q hq => ?_) (off _ m1) (off _ m2) (off _ m3) (off _ m4) (off _ m5) hd hu fun v t h' tk' t' n' v0 vl F' N' => ?_
  · rcases List.mem_append.mp hq with hq | hq
    · exact hpre _ hq
    · exact hpost _ hq
  · obtain ⟨i, rfl⟩ := Int.eq_ofNat_of_zero_le v0
    refine ret i t h' tk' t' n' vl F' ?_
    rw [hg]
    intro q hq
    refine N' q ?_
    rcases List.mem_append.mp hq with hq | hq
    · exact .tail _ (.tail _ (.tail _ (.tail _ (.tail _ (.tail _ (List.mem_append_left _ hq))))))
    rcases List.mem_cons.mp hq with h | hq
    · exact h ▸ .tail _ (.tail _ (.head _))
    · exact .tail _ (.tail _ (.tail _ (.tail _ (.tail _ (.tail _ (List.mem_append_right _ hq))))))
end Og91
end

/-! LawD2 -/
section
open Og91
set_option maxRecDepth 100000
set_option maxHeartbeats 8000000
namespace Og91
def RowInv (base : List (Addr × Obj)) (pl : Addr) (k : Int) (i : Nat) (ys : List Value) (nw : List (Addr × Obj)) : Prop :=
  ∃ (rs : List Int) (t : Tok) (n : Nat), nw = (pl, W.listOf #[.int (k + (i : Int)) t] n) :: base ∧ IntsAre ys rs ∧ rs.length = i ∧ ∀ r ∈ rs, 0 ≤ r ∧ r ≤ 9
theorem ints_append : ∀ {vs ws : List Value} {ns ms : List Int}, IntsAre vs ns → IntsAre ws ms → IntsAre (vs ++ ws) (ns ++ ms)
  | _, _, _, _, .nil, h => h
  | _, _, _, _, .cons n t r, h => .cons n t (ints_append r h)
theorem ints_take : ∀ {vs : List Value} {ns : List Int} (_ : IntsAre vs ns) (k : Nat), IntsAre (vs.take k) (ns.take k)
  | _, _, _, 0 => .nil
  | _, _, .nil, _ + 1 => .nil
  | _, _, .cons n t h, k + 1 => .cons n t (ints_take h k)
theorem ints_set : ∀ {vs : List Value} {ns : List Int} (_ : IntsAre vs ns) (k : Nat) (z : Int) (t : Tok), IntsAre (vs.set k (.int z t)) (ns.set k z)
  | _, _, .nil, _, _, _ => .nil
  | _, _, .cons _ _ h, 0, z, t => .cons z t h
  | _, _, .cons n u h, k + 1, z, t => .cons n u (ints_set h k z t)
theorem rng_append {xs ys : List Int} (h1 : ∀ r ∈ xs, 0 ≤ r ∧ r ≤ 9) (h2 : ∀ r ∈ ys, 0 ≤ r ∧ r ≤ 9) : ∀ r ∈ xs ++ ys, 0 ≤ r ∧ r ≤ 9 := fun r hr => (List.mem_append.mp hr).elim (h1 r) (h2 r)
theorem rng_set {xs : List Int} {k : Nat} {z : Int} (h1 : ∀ r ∈ xs, 0 ≤ r ∧ r ≤ 9) (h2 : 0 ≤ z ∧ z ≤ 9) : ∀ r ∈ xs.set k z, 0 ≤ r ∧ r ≤ 9 := fun r hr => (List.mem_or_eq_of_mem_set hr).elim (h1 r) fun e => e ▸ h2
open LCg in
theorem row_end {h₀ h' : Heap} {L I C D pl : Addr} {m : Str → Option Value} {s₁ : Shared} {oI oC o : Obj} {base : List (Addr × Obj)} {k z : Int} {i v : Nat} {ys : List Value} {rs : List Int} {t t' : Tok} {n' tk' : Nat}
    (F : Fr h₀ L h' m) (N : News h₀ L h' ((I, oI) :: (C, oC) :: (D, lst ys) :: (pl, W.listOf #[.int z t'] n') :: base)) (hz : z = k + (i : Int) + 1) (off : Off3 I C D ((pl, o) :: base)) (hI : IntsAre ys rs) (hl : rs.length = i) (hr : ∀ r ∈ rs, 0 ≤ r ∧ r ≤ 9) (hv : (v : Int) < 10) :
    CompEnd h₀ L m s₁ I oI C oC D (lst ys) (fun _ => True) (fun y news' => RowInv base pl k (i + 1) (ys ++ [y]) news') (.int (v : Int) t) { s₁ with heap := h', toks := tk' } := by
  refine CompEnd.intro F N ((pl, W.listOf #[.int z t'] n') :: base) (fun _ hp => hp) off trivial ?_
  refine ⟨rs ++ [(v : Int)], t', n', ?_, ints_append hI (.cons _ _ .nil), by rw [List.length_append, hl]; rfl, rng_append hr fun r h => ?_⟩
  · rw [hz, show k + ((i + 1 : Nat) : Int) = k + (i : Int) + 1 by omega]
  · rw [List.mem_singleton.mp h]; omega
theorem rng_menu {n : Nat} : ∀ r ∈ ([0, 1, ([2, 4, 2] : List Int).getD n 0, 3] : List Int), 0 ≤ r ∧ r ≤ 9 := by
  have h : 0 ≤ ([2, 4, 2] : List Int).getD n 0 ∧ ([2, 4, 2] : List Int).getD n 0 ≤ 9 := by
    match n with
    | 0 => decide
    | 1 => decide
    | 2 => decide
    | n + 3 => simp
  intro r hr
  simp only [List.mem_cons, List.not_mem_nil, or_false] at hr
  rcases hr with rfl | rfl | rfl | rfl
  · decide
  · decide
  · exact h
  · decide
theorem rng_ins {rs : List Int} {n k : Nat} (h : ∀ r ∈ rs, 0 ≤ r ∧ r ≤ 9) : ∀ r ∈ rs.take k ++ [0, 1, ([2, 4, 2] : List Int).getD n 0, 3] ++ rs.drop k, 0 ≤ r ∧ r ≤ 9 :=
  rng_append (rng_append (fun r hr => h r (List.mem_of_mem_take hr)) rng_menu) fun r hr => h r (List.mem_of_mem_drop hr)
theorem len_ins {rs : List Int} {n k : Nat} (hk : k ≤ rs.length) : (rs.take k ++ [0, 1, ([2, 4, 2] : List Int).getD n 0, 3] ++ rs.drop k).length = rs.length + 4 := by
  simp only [List.length_append, List.length_take, List.length_drop, List.length_cons, List.length_nil]
  omega
theorem fin_news {h₀ h : Heap} {L pl : Addr} {o : Obj} {base all : List (Addr × Obj)} (N : News h₀ L h all) (hm : (pl, o) ∈ all) (sub : ∀ q ∈ base, q ∈ all) : News h₀ L h ((pl, o) :: base) := fun q hq => N q ((List.mem_cons.mp hq).elim (fun e => e ▸ hm) (sub q))
section
variable {prog : Program} {w : World} {A : Around} {E : Value → Shared → Prop} {s : Shared} {h₀ : Heap} {L : Addr} {m : Str → Option Value} {news : List (Addr × Obj)} {value slice : PySem.Expr} {Q : Value → Shared → Prop}
theorem item_two {D : Addr} {a b : Str} {ta tb u : Tok} {v : Nat} (N : News h₀ L s.heap news) (hm : (D, tupO #[.str a ta, .str b tb]) ∈ news) (hv : (v : Int) < 2) (h : ∀ nm t, Q (.str nm t) s)
    (hs : subscripted slice false (.ref D) (.int (v : Int) u) = operate [.ref D, .int (v : Int) u] (getItem (.ref D) (.int (v : Int) u)) := by with_unfolding_all rfl) :
    wpAny (model prog w) A (subscriptTail value slice (.ref D) (.int (v : Int) u)) Q E s := by
  have ht : IsTup s.heap D #[.str a ta, .str b tb] := ⟨_, (N _ hm).1, rfl, _, rfl⟩
  have hv' : v = 0 ∨ v = 1 := by omega
  rcases hv' with rfl | rfl
  · exact item_tupleT (j := 0) ht (by decide) (by decide) rfl rfl (h a ta) hs
  · exact item_tupleT (j := 1) ht (by decide) (by decide) rfl rfl (h b tb) hs
theorem ne_made {D d : Addr} {o o' : Obj} {x : Except Nat Nat} (N : News h₀ L s.heap news) (hm : (D, o) ∈ news) (hm' : (d, o') ∈ news) (a1 : AnsObj x o) (a2 : AnsObj x o') (hu : A.units + 64 < cLine) (h : Q (.bool false) s) :
    wpAny (model prog w) A (compareOp .NotEq (.ref D) (.ref d)) Q E s := ne_ans (N _ hm).1 (N _ hm').1 a1 a2 hu h
end
end Og91
end

/-! LawE -/
section
open Og91
set_option maxRecDepth 100000
set_option maxHeartbeats 8000000
namespace Og91
local macro_rules | `(tactic| k_all) => `(tactic| assumption)
local macro_rules | `(tactic| walk_at "call ref") => `(tactic| (k_here; (with_reducible show wpAny _ _ (call (Value.ref _) [Value.int _ _]) _ _ _); k_dflt (refine' take_use ?B ?F ?X ?N ?T ?K ?U ?sub ?C ?off ?h0 ?hk ?hl ?hl' ?hd ?hu ?_; (case B => k_asm); (case F => k_asm); (case X => k_asm); (case N => k_asm); (case T => k_asm); (case K => exact rfl); (case C => assumption); (case U => k_updF); (case sub => (intro q9 h9; repeat first | exact h9 | apply List.Mem.tail)); (case off => assumption); (case h0 => first | assumption | omega); (case hk => omega); (case hl => first | decide | omega); (case hl' => first | decide | omega); (case hd => ktr_room); (case hu => ktr_units); k_whole); intro v9 t9 h9 tk9 t9 n9 l9 F9 N9; (try dsimp only at N9); (try k_sweep)))
local macro_rules | `(tactic| walk_at "callWith ref") => `(tactic| (k_here; k_dflt (refine' callWith_F ?k1 ?_; (case k1 => exact FnAt.of (by k_asm) (by k_mem)); k_whole)))
local macro_rules | `(tactic| walk_at "call builtin:len") => `(tactic| (k_here; (with_reducible show wpAny _ _ (call (Value.builtin "len") [Value.ref _]) _ _ _); k_dflt (refine' len_row ?F ?N ?X ?r ?i ?l ?_; (case F => k_asm); (case N => k_asm); (case X => k_asm); (case r => exact .inl ⟨_, by k_mem⟩); (case i => assumption); (case l => assumption); k_whole)))
local macro_rules | `(tactic| walk_at "exec Assign cons ListComp") => `(tactic| (k_here; k_dflt (refine LCg.Assign_ListComp_U (F₀ := by k_asm) (by rfl) (by with_unfolding_all rfl) (by with_unfolding_all rfl) (by decide) (by rfl) (by decide) (by rfl) (by rfl) (by rfl) ?_)))
local macro_rules | `(tactic| walk_at "CompSrc") => `(tactic| (k_here; k_dflt (refine range_src (by rfl) (by k_asm) (by k_asm) (by assumption) (by omega) ?_)))
local macro_rules | `(tactic| walk_at "subscriptTail") => `(tactic| (k_here; (with_reducible show wpAny _ _ (subscriptTail (Expr.Tuple [Expr.Constant (Const.str _) _ _, _] _ _) _ (Value.ref _) (Value.int _ _)) _ _ _); k_dflt (refine' item_two ?N ?m ?v ?_ ?s; (case N => k_asm); (case m => k_mem); (case v => assumption); (case s => with_unfolding_all rfl); k_whole); intro nm9 tn9))
local macro_rules | `(tactic| walk_at "call ref") => `(tactic| (k_here; (with_reducible show wpAny _ _ (call (Value.ref 347) _) _ _ _); k_dflt (refine' due_ok (rs := _) ?B ?F ?X ?N ?T ?K ?row ?I ?r ?l ?k ?hd ?hu ?_; (case B => k_asm); (case F => k_asm); (case X => k_asm); (case N => k_asm); (case T => k_asm); (case K => exact rfl); (case row => exact .inl ⟨_, by k_mem⟩); (case I => assumption); (case r => first | assumption | exact rng_ins (by assumption) | exact rng_set (rng_ins (by assumption)) ⟨by omega, by omega⟩); (case l => first | assumption | ((try rw [List.length_set]); rw [len_ins (by omega)]; omega)); (case k => first | omega | ((try rw [List.length_set]); rw [len_ins (by omega)]; omega)); (case hd => ktr_room); (case hu => ktr_units); k_whole); intro D9 o9 h9 tk9 F9 N9 a9; (try k_sweep)))
local macro_rules | `(tactic| walk_at "call ref") => `(tactic| (k_here; (with_reducible show wpAny _ _ (call (Value.ref 342) _) _ _ _); k_dflt (refine' answer_ok (rs := _) ?B ?F ?X ?N ?T ?K ?XB ?TB ?row ?I ?r ?l ?k ?hd ?hu ?_; (case B => k_asm); (case F => k_asm); (case X => k_asm); (case N => k_asm); (case T => k_asm); (case K => exact rfl); (case XB => k_asm); (case TB => k_asm); (case row => exact .inl ⟨_, by k_mem⟩); (case I => assumption); (case r => first | assumption | exact rng_ins (by assumption) | exact rng_set (rng_ins (by assumption)) ⟨by omega, by omega⟩); (case l => first | assumption | ((try rw [List.length_set]); rw [len_ins (by omega)]; omega)); (case k => first | omega | ((try rw [List.length_set]); rw [len_ins (by omega)]; omega)); (case hd => ktr_room); (case hu => ktr_units); k_whole); intro D9 o9 h9 tk9 F9 N9 a9; (try k_sweep)))
local macro_rules | `(tactic| walk_at "compareOp NotEq ref ref") => `(tactic| (k_here; k_dflt (refine' ne_made ?N (.tail _ (.head _)) (.head _) ?a1 ?a2 ?hu ?_; (case N => k_asm); (case a1 => assumption); (case a2 => assumption); (case hu => ke_room); k_whole)))
theorem turn_ok {w : World} {p : Program} {loose : List Str} {mean : ExcName → Option Value} {mg mb : Str → Option Value} {h₀ : Heap} {L a : Addr} {cd : Value} {m : Str → Option Value} {s : Shared} {Q : Flow → Shared → Prop} {E : Value → Shared → Prop}
    {f pl : Addr} {base : List (Addr × Obj)} {oT : Obj} {k : Int} {tk : Tok} {n1 : Nat}
    (B : Below callerA h₀ [] h₀) (F : Fr h₀ L s.heap m) (X : (tp.heap_1 w.params).In h₀) (N : News h₀ L s.heap ((pl, W.listOf #[.int k tk] n1) :: base)) (T : Top p loose mean mg mb h₀)
    (mT : (L + 1, oT) ∈ base) (dT : oT.data = .cell (some (.ref f))) (hC : TkC base f pl) (hoff : ∀ q ∈ base, q.1 ≠ pl) (h0 : 0 ≤ k) (hk : k ≤ 42)
    (done : ∀ h' tk' m' k' t' n', k ≤ k' → k' ≤ k + 14 → Fr h₀ L h' m' → News h₀ L h' ((pl, W.listOf #[.int k' t'] n') :: base) → Q .next { s with heap := h', toks := tk' }) :
    wpAny (model PySem.Challenge.rw_og0091_01.row.prog w) (callerA.deeper (envOfC "law" (scopeOf lawStmt) L a cd)) (execs (forBody (lawPart 2)) (envOfC "law" (scopeOf lawStmt) L a cd)) Q E s := by
  simp only [lawPart, lawStmt, scopeOf, forBody, bodyOf, theBody, PySem.Challenge.pw_og0091_01, List.getD_cons_succ, List.getD_cons_zero]
  obtain ⟨fc, fo, fd, fs, mF⟩ := hC.fn
  revert X
  w_top off
  k_fill
  intro X
  (try k_fold)
  iterate 19 (first | (k_unfold; (try dsimp only)) | (k_end; kc_close) | walk1 | (dsimp only; walk1) | (leave1; (try dsimp only)))
  refine rest_ind (RowInv base pl (k + 1)) ?step ?fin _ _ _ _ (Nat.zero_add _) ?start
  case start => exact ⟨[], _, _, by rw [Int.natCast_zero, Int.add_zero], .nil, rfl, fun r hr => nomatch hr⟩
  case step =>
    intro i ys nw v I oI C oC D m₂ h tk E' hi hinv hv hC9 hx F9 N9 off ne
    obtain ⟨rs, t9, n9, rfl, hI, hl, hr⟩ := hinv
    obtain ⟨⟨e1, e2, e3⟩, _⟩ := id off
    k_sweep
    k_steps
    exact row_end (by assumption) (by assumption) rfl off hI hl hr (by assumption)
  case fin =>
    intro ys nw hinv
    obtain ⟨rs, t8, n8, rfl, hI, hl, hr⟩ := hinv
    have hlen : rs.length ≤ 11 := by omega
    unfold LCg.FinA
    intro D8 h8 tk8 F8 N8 o8
    have e8 : @Ne Nat pl D8 := o8.1
    k_sweep
    k_steps
    all_goals (refine' done _ _ _ _ _ _ ?za ?zb ?zF (fin_news ?zN ?zm ?zs); (case zF => assumption); (case zN => assumption); (case zm => k_mem); (case zs => (intro q hq; repeat first | exact hq | apply List.Mem.tail)); (case za => omega); (case zb => omega))
end Og91
end

end

/-! LawF -/
section
open PySem PySem.W PySem.Calls PyProof.Rows Og91
set_option maxRecDepth 100000
set_option maxHeartbeats 8000000
namespace Og91
theorem swap_news {h₀ h : Heap} {L : Addr} {a b : Addr × Obj} {l : List (Addr × Obj)} (N : News h₀ L h (a :: b :: l)) : News h₀ L h (b :: a :: l) := fun q hq => N q (by
  rcases List.mem_cons.mp hq with e | hq
  · exact e ▸ .tail _ (.head _)
  rcases List.mem_cons.mp hq with e | hq
  · exact e ▸ .head _
  · exact .tail _ (.tail _ hq))
section
variable {w : World} {p : Program} {loose : List Str} {mean : ExcName → Option Value} {mg mb : Str → Option Value} {h₀ : Heap} {L a : Addr} {cd : Value} {m : Str → Option Value} {s : Shared} {Q : Flow → Shared → Prop} {E : Value → Shared → Prop}
theorem iter_written {news : List (Addr × Obj)} (B : Below callerA h₀ [] h₀) (F : Fr h₀ L s.heap m) (X : (tp.heap_1 w.params).In h₀) (N : News h₀ L s.heap news) (T : Top p loose mean mg mb h₀)
    (done : ∀ h' tk' m', Fr h₀ L h' m' → News h₀ L h' news → Q .next { s with heap := h', toks := tk' }) :
    wpAny (model PySem.Challenge.rw_og0091_01.row.prog w) (callerA.deeper (envOfC "law" (scopeOf lawStmt) L a cd)) (pyIter (.ref 330))
      (fun it s₂ => TurnsAt PySem.Challenge.rw_og0091_01.row.prog w (callerA.deeper (envOfC "law" (scopeOf lawStmt) L a cd)) h₀ (envOfC "law" (scopeOf lawStmt) L a cd) (forTarget (lawPart 1)) (forBody (lawPart 1)) Q E it s₂) E s :=
  iter_tupK (vs := wrs.map fun t => .ref t) (n := 0) rfl F N X (lo := tupO (wrs.map fun t => Value.ref t).toArray) (by kernel_rfl) rfl rfl (by decide) fun I l1 => wr_rest B X T l1 done wrs wr_all m
theorem turn_rest {f pl I : Addr} {base : List (Addr × Obj)} {oT : Obj} (B : Below callerA h₀ [] h₀) (X : (tp.heap_1 w.params).In h₀) (T : Top p loose mean mg mb h₀)
    (mT : (L + 1, oT) ∈ base) (dT : oT.data = .cell (some (.ref f))) (hC : TkC base f pl) (hoff : ∀ q ∈ base, q.1 ≠ pl) (hI : ∀ q ∈ base, q.1 < I) (hp : pl < I)
    (done : ∀ h' tk' m', Fr h₀ L h' m' → News h₀ L h' base → Q .next { s with heap := h', toks := tk' }) :
    ∀ (kk i : Nat), i + kk = 4 → ∀ (m : Str → Option Value) (k : Int) (t : Tok) (n : Nat), 0 ≤ k → k ≤ 14 * (i : Int) →
      RangeRest PySem.Challenge.rw_og0091_01.row.prog w (callerA.deeper (envOfC "law" (scopeOf lawStmt) L a cd)) E h₀ (envOfC "law" (scopeOf lawStmt) L a cd) "turn" (forBody (lawPart 2)) Q s I 0 4 kk i m ((pl, W.listOf #[.int k t] n) :: base)
  | 0, i, _, m, k, t, n, _, _ => RangeRest.zero fun h tk F N => done h tk m F fun q hq => N q (.tail _ hq)
  | kk + 1, i, e, m, k, t, n, h0, hk => by
    have ih := turn_rest B X T mT dT hC hoff hI hp done kk (i + 1) (by omega)
    refine RangeRest.succ fun tu h tk F N => ?_
    refine turn_ok (s := { s with heap := h, toks := tk }) B F X (swap_news N) T (.tail _ mT) dT (hC.mono fun _ hq => .tail _ hq) (fun q hq => ?_) h0 (by omega) fun h' tk' m' k' t' n' k1 k2 F' N' => ?_
    · rcases List.mem_cons.mp hq with e | hq
      · rw [e]; exact Nat.ne_of_gt hp
      · exact hoff q hq
    · refine ⟨h', tk', m', (pl, W.listOf #[.int k' t'] n') :: base, rfl, F', swap_news N', fun q hq => ?_, ih m' k' t' n' (by omega) (by omega)⟩
      rcases List.mem_cons.mp hq with e | hq
      · rw [e]; exact Nat.ne_of_lt hp
      · exact Nat.ne_of_lt (hI q hq)
theorem iter_turns {f pl r : Addr} {base : List (Addr × Obj)} {oT : Obj} {k : Int} {tk t u v : Tok} {n1 : Nat} (B : Below callerA h₀ [] h₀) (F : Fr h₀ L s.heap m) (X : (tp.heap_1 w.params).In h₀) (N : News h₀ L s.heap ((pl, W.listOf #[.int k tk] n1) :: base)) (T : Top p loose mean mg mb h₀)
    (mT : (L + 1, oT) ∈ base) (dT : oT.data = .cell (some (.ref f))) (hC : TkC base f pl) (hoff : ∀ q ∈ base, q.1 ≠ pl) (hk : k = 0) (hr : IsRange s.heap r 0 4 1 t u v)
    (done : ∀ h' tk' m', Fr h₀ L h' m' → News h₀ L h' base → Q .next { s with heap := h', toks := tk' }) :
    wpAny (model PySem.Challenge.rw_og0091_01.row.prog w) (callerA.deeper (envOfC "law" (scopeOf lawStmt) L a cd)) (pyIter (.ref r))
      (fun it s₂ => LoopAtV PySem.Challenge.rw_og0091_01.row.prog w (callerA.deeper (envOfC "law" (scopeOf lawStmt) L a cd)) h₀ (envOfC "law" (scopeOf lawStmt) L a cd) "turn" (forBody (lawPart 2)) Q E it s₂) E s :=
  iter_rangeUnr (n := 4) rfl hr (by decide) (by decide) F N fun I l1 => turn_rest B X T mT dT hC hoff (fun q hq => l1 q (.tail _ hq)) (l1 _ (.head _)) done 4 0 rfl m k tk n1 (by omega) (by omega)
theorem ne_data {g : Heap} {x y : Addr} {o o' : Obj} (h1 : g.get? x = some o) (h2 : g.get? y = some o') (hne : o.data ≠ o'.data) : x ≠ y := fun e => hne (by
  rw [e] at h1
  rw [Option.some.inj (h1.symm.trans h2)])
theorem iter_turns_at {f c pl cl cp cc r : Addr} {oc oP oC oT : Obj} {vs : List Value} {ns : List Int} {n1 n2 : Nat} {params : Arguments} {body : List Stmt} {scope : Scope} {ret : Option PySem.Expr} {tps : List TypeParam} {ts : Option Scope} {bd : Str} {ps : Pos} {qual : Str} {doc pm ctv : Value} {tq : Tok} {cvs : Array Value}
    {all : List (Addr × Obj)} {tk t u v : Tok} (B : Below callerA h₀ [] h₀) (F : Fr h₀ L s.heap m) (X : (tp.heap_1 w.params).In h₀) (N : News h₀ L s.heap all) (T : Top p loose mean mg mb h₀) (hr : IsRange s.heap r 0 4 1 t u v)
    (m6 : (L + 1, oT) ∈ all) (dT : oT.data = .cell (some (.ref f))) (m1 : (f, fnMade "take" qual params body scope [("place", cp), ("cells", cc)] doc pm c ctv) ∈ all) (m2 : (c, oc) ∈ all) (m4 : (cp, oP) ∈ all) (m5 : (cc, oC) ∈ all)
    (d1 : oP.data = .cell (some (.ref pl))) (d2 : oC.data = .cell (some (.ref cl))) (m0 : (pl, W.listOf #[.int 0 tk] n1) ∈ all) (m3 : (cl, W.listOf vs.toArray n2) ∈ all) (d3 : oc.data = .fields cvs) (d4 : cvs[1]? = some (.str qual tq))
    (hI : IntsAre vs ns) (hne : ns ≠ []) (hlen : ns.length ≤ 63) (hpc : @Ne Nat cl pl) (hfn : takeStmt = .FunctionDef "take" params body [] ret tps scope ts bd ps) {xa : Addr} {xs : Array Value} (m7 : (xa, tabObj xs) ∈ all)
    (done : ∀ h' tk' m', Fr h₀ L h' m' → News h₀ L h' [(xa, tabObj xs)] → Q .next { s with heap := h', toks := tk' }) :
    wpAny (model PySem.Challenge.rw_og0091_01.row.prog w) (callerA.deeper (envOfC "law" (scopeOf lawStmt) L a cd)) (pyIter (.ref r))
      (fun it s₂ => LoopAtV PySem.Challenge.rw_og0091_01.row.prog w (callerA.deeper (envOfC "law" (scopeOf lawStmt) L a cd)) h₀ (envOfC "law" (scopeOf lawStmt) L a cd) "turn" (forBody (lawPart 2)) Q E it s₂) E s := by
  have g0 := (N _ m0).1
  refine iter_turns (base := [(L + 1, oT), (f, fnMade "take" qual params body scope [("place", cp), ("cells", cc)] doc pm c ctv), (c, oc), (cp, oP), (cc, oC), (cl, W.listOf vs.toArray n2), (xa, tabObj xs)]) (pl := pl) (tk := tk) (n1 := n1) B F X (fin_news N m0 fun q hq => ?_) T (.head _) dT ?_ (fun q hq => ?_) rfl hr (fun h' tk' m' F' N' => done h' tk' m' F' fun q hq => N' q (by rw [List.mem_singleton.mp hq]; simp))
  · simp only [List.mem_cons, List.not_mem_nil, or_false] at hq
    rcases hq with rfl | rfl | rfl | rfl | rfl | rfl | rfl <;> assumption
  · exact ⟨c, cl, cp, cc, oc, oP, oC, vs, ns, n2, params, body, scope, ret, tps, ts, bd, ps, qual, doc, pm, ctv, tq, cvs, hfn, by simp, by simp, by simp, by simp, by simp, d1, d2, d3, d4, hI, hne, hlen⟩
  · simp only [List.mem_cons, List.not_mem_nil, or_false] at hq
    rcases hq with rfl | rfl | rfl | rfl | rfl | rfl | rfl
    · exact ne_data (N _ m6).1 g0 (by rw [dT]; exact nofun)
    · exact ne_data (N _ m1).1 g0 nofun
    · exact ne_data (N _ m2).1 g0 (by rw [d3]; exact nofun)
    · exact ne_data (N _ m4).1 g0 (by rw [d1]; exact nofun)
    · exact ne_data (N _ m5).1 g0 (by rw [d2]; exact nofun)
    · exact hpc
    · exact ne_data (N _ m7).1 g0 nofun
end
end Og91
end

open PySem PySem.W PySem.Calls PyProof.Rows Og91
set_option maxRecDepth 100000
set_option maxHeartbeats 8000000
local macro_rules | `(tactic| walk_at "pyIter ref") => `(tactic| (k_here; (with_reducible show wpAny _ _ (pyIter (Value.ref 330)) _ _ _); k_dflt (refine' iter_written ?B ?F ?X ?N ?T ?_; (case B => k_asm); (case F => k_asm); (case X => k_asm); (case N => k_asm); (case T => k_asm); k_whole); intro h9 tk9 m9 F9 N9; (try k_sweep)))
local macro_rules | `(tactic| walk_at "pyIter ref") => `(tactic| (k_here; (with_reducible show wpAny _ _ (pyIter (Value.ref _)) (fun it s₂ => LoopAtV _ _ _ _ _ _ _ _ _ it s₂) _ _); k_dflt (refine' iter_turns_at (ns := _) ?B ?F ?X ?N ?T ?r ?m6 ?dT ?m1 ?m2 ?m4 ?m5 ?d1 ?d2 ?m0 ?m3 ?d3 ?d4 ?hI ?hne ?hlen ?hpc ?hfn (xa := 332) ?m7 ?_; (case B => k_asm); (case F => k_asm); (case X => k_asm); (case N => k_asm); (case T => k_asm); (case r => assumption); (case m6 => k_mem); (case dT => assumption); (case m1 => k_mem); (case m2 => k_mem); (case m4 => k_mem); (case m5 => k_mem); (case d1 => assumption); (case d2 => assumption); (case m0 => k_mem); (case m3 => k_mem); (case d3 => assumption); (case d4 => assumption); (case hI => first | assumption | exact .cons _ _ .nil); (case hne => first | exact of_decide_eq_false (by assumption) | assumption | exact List.cons_ne_nil _ _); (case hlen => first | decide | (rw [List.length_take]; omega)); (case hpc => k_ne); (case hfn => rfl); (case m7 => k_mem); k_whole); intro h9 tk9 m9 F9 N9; (try k_sweep)))
theorem PySem.Challenge.cw_og0091_01_holds : PySem.Challenge.rw_og0091_01.Holds := by
  refine Og91.tp ?_
  k_fill
  intro w s₀ s₁ mg mb G Y fa o pm cd doc dV kV ho hd hcd hD hmg hg args vals as hpre hlay hrd hwl hlo
  have hT8 := tabs_of Y
  have KX := kx_of Y G.T (by kernel_rfl) (by kernel_rfl) (by kernel_rfl)
  have X := (Ground.X G).1
  have V := (Ground.X G).2
  refine Ground.open G ?_
  intro T B D TE TW
  try (refine guard_noD D (by decide +kernel) ?_; clear D)
  km_lay T hmg ho hd cd
  clear hmg Y
  wrow_args hpre hlay hrd hwl hlo
  all_goals (
    first | refine callC_kw (enter_call ?_) | refine enter_call ?_
    w_top on
    kn_posts
    w_call any ho hd hcd hD T F
    clear hd
    kn_ghosts F T
    k_drop
    skip)
  all_goals try k_fold
  k_steps
