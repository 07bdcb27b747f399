import PyProof.Rows.All
import Wide.All
import OpenK.AllK
import Wide.FinOn
import KE.KStateDown
import Lean
import HandS.ForMost
import HandS.Exc
import HandS.WordsExc
import HandS.Defaults
import HandS.HeadHook1
import HandS.HeadHook2
import PySem.Challenge.RW_guestseats_k12_whole_ever_likeliest_numb
import HandS.Head0
import HandS.Head1
import HandS.Head2
import HandS.Head3
import HandS.Gcd
import HandS.Wide
import HandS.WideBits
import HandS.IsInst
import HandS.Deep
import HandS.Style
import HandS.Strs
import HandS.Conv
import HandS.TupAny
import HandS.MakeKw
import PyProof.ReprRoads
import PyProof.ReprBulk
import HandS.Evl
import KE.KIndexOf
import PyProof.FitsInt
import HandS.Ends
section
set_option Elab.async false
set_option linter.all false
set_option maxRecDepth 100000
set_option maxHeartbeats 4000000
/-! the head's facts by one walk along the module's names -/
namespace G7
open PySem PySem.Spec PyProof.Rows L2
inductive Want where
  | skip
  | fn (st : Stmt)
  | tup (vs : List V)
  | blt (id : String)
abbrev Gt : Type := Addr → Option Obj
abbrev Tbl : Type := List (Str × Want)
def fnG (g : Gt) (v : Value) : He.FnW := match v with
  | .ref a => (match g a with
    | some ⟨_, _, .func fd, _⟩ => some (fd.name, fd.qualname, fd.params, fd.body, fd.scope, fd.globals, fd.closure, fd.builtins)
    | _ => none)
  | _ => none
def codeG (g : Gt) (x : Str) (v : Value) : Bool := match v with
  | .ref a => (match g a with
    | some ⟨_, _, .func fd, _⟩ => (match fd.defaults with
      | .none => (match fd.code with
        | .ref c => (match g c with
          | some ⟨_, _, .fields vs, _⟩ => (match vs.toList with
            | _ :: .str n _ :: _ => n == x
            | _ => false)
          | _ => false)
        | _ => false)
      | _ => false)
    | _ => false)
  | _ => false
def tupG (g : Gt) (v : Value) (vs : List V) : Bool := match v with
  | .ref a => (match g a with
    | some ⟨.type c, none, .seq its _, _⟩ => decide (c = "tuple") && (decide (its.size ≤ sizeLine) && He.relAll vs its.toList)
    | _ => false)
  | _ => false
def bltG (v : Value) (id : String) : Bool := match v with
  | .builtin i => decide (i = id)
  | _ => false
def wantB (g : Gt) (x : Str) (v : Value) : Want → Bool
  | .skip => true
  | .fn _ => codeG g x v
  | .tup vs => tupG g v vs
  | .blt id => bltG v id
def walkB (g : Gt) : Tbl → List DictEntry → Bool
  | [], [] => true
  | q :: r, e :: es => e.key.isStr q.1 && (wantB g q.1 e.val q.2 && walkB g r es)
  | _, _ => false
def walkF (g : Gt) : Tbl → List DictEntry → List He.FnW
  | q :: r, e :: es => (match q.2 with
    | .fn _ => fnG g e.val :: walkF g r es
    | _ => walkF g r es)
  | _, _ => []
def valF : Tbl → List He.FnW
  | [] => []
  | q :: r => (match q.2 with
    | .fn st => some (q.1, q.1, defArgs st, .stmts (defBody st), defScope st, mainGlobals, [], builtinsNs) :: valF r
    | _ => valF r)
def esG (g : Gt) : List DictEntry := match g mainGlobals with
  | some ⟨_, _, .dict es _, _⟩ => es.toList
  | _ => []
abbrev AlG : Type := Bool × List He.FnW
def obsG (t : Tbl) (g : Gt) : AlG := (walkB g t (esG g), walkF g t (esG g))
/-! ### what is told of K -/
def Wok (K : PySem.W.Frag) (x : Str) (v : Value) : Want → Prop
  | .skip => True
  | .fn st => ∃ a fd, v = .ref a ∧ FunD K x x (defArgs st) (defBody st) (defScope st) [] [] a fd
  | .tup vs => ∃ a, v = .ref a ∧ (∀ H, SqT K H a vs) ∧ ∃ o, K.lookup a = some o ∧ o.cls = .type "tuple" ∧ o.dict = none
  | .blt id => v = .builtin id
def Ali (K : PySem.W.Frag) : Tbl → List DictEntry → Prop
  | [], [] => True
  | q :: r, e :: es => e.key.isStr q.1 = true ∧ Wok K q.1 e.val q.2 ∧ Ali K r es
  | _, _ => False
def Fc (t : Tbl) (K : PySem.W.Frag) : Prop := ∃ oc od es n sl, K.lookup mainGlobals = some ⟨oc, od, .dict es n, sl⟩ ∧ Ali K t es.toList
theorem frG_of {g : Gt} {a : Addr} {o : Obj} (h : g a = some o) : ∀ {as : List Addr}, a ∈ as → (He.frG g as).lookup a = some o
  | [], m => by cases m
  | b :: r, m => by
    unfold He.frG
    by_cases e : a = b
    · subst e
      rw [List.filterMap_cons, h]
      show (match a == a with | true => some o | false => _) = some o
      rw [beq_self_eq_true]
    · have m2 : a ∈ r := by
        rcases List.mem_cons.mp m with q | q
        · exact absurd q e
        · exact q
      have ih := frG_of h m2
      unfold He.frG at ih
      cases hb : g b with
      | none =>
        rw [List.filterMap_cons, hb]
        exact ih
      | some ob =>
        rw [List.filterMap_cons, hb]
        show (match a == b with | true => some ob | false => _) = some o
        rw [show (a == b) = false from beq_eq_false_iff_ne.mpr e]
        exact ih
def addrs (g : Gt) (e : DictEntry) : List Addr := match e.val with
  | .ref a => a :: (match g a with
    | some ⟨_, _, .func fd, _⟩ => (match fd.code with
      | .ref c => [c]
      | _ => [])
    | _ => [])
  | _ => []
def asE (g : Gt) : List Addr := mainGlobals :: (esG g).flatMap (addrs g)
theorem tup_ok {g : Gt} {K : PySem.W.Frag} {v : Value} {vs : List V} (h : tupG g v vs = true) (hK : ∀ a o, v = .ref a → g a = some o → K.lookup a = some o) : ∃ a, v = .ref a ∧ (∀ H, SqT K H a vs) ∧ ∃ o, K.lookup a = some o ∧ o.cls = .type "tuple" ∧ o.dict = none := by
  unfold tupG at h
  cases v with
  | ref a =>
    refine ⟨a, rfl, ?_⟩
    have h1 : (match g a with
      | some ⟨.type c, none, .seq its _, _⟩ => decide (c = "tuple") && (decide (its.size ≤ sizeLine) && He.relAll vs its.toList)
      | _ => false) = true := h
    cases q : g a with
    | none =>
      rw [q] at h1
      cases h1
    | some o =>
      have hq := hK a o rfl q
      obtain ⟨oc, od, dt, osl⟩ := o
      rw [q] at h1
      cases oc with
      | type c =>
        cases od with
        | none =>
          cases dt with
          | seq its n =>
            obtain ⟨h1, h2⟩ := He.ba (show (decide (c = "tuple") && (decide (its.size ≤ sizeLine) && He.relAll vs its.toList)) = true from h1)
            obtain ⟨h3, h4⟩ := He.ba h2
            exact ⟨fun H => .inr ⟨_, its, n, hq, congrArg Value.type (of_decide_eq_true h1), rfl, of_decide_eq_true h3, He.relAll_ok h4⟩, _, hq, congrArg Value.type (of_decide_eq_true h1), rfl⟩
          | _ => cases h1
        | some d => cases dt <;> cases h1
      | _ => cases od <;> cases dt <;> cases h1
  | _ => cases h
theorem fn_ok {g : Gt} {K : PySem.W.Frag} {x : Str} {v : Value} {st : Stmt} (h : codeG g x v = true) (e : fnG g v = some (x, x, defArgs st, .stmts (defBody st), defScope st, mainGlobals, [], builtinsNs))
    (hK : ∀ a o, v = .ref a → g a = some o → K.lookup a = some o)
    (hC : ∀ a oc od fd osl c o, v = .ref a → g a = some ⟨oc, od, .func fd, osl⟩ → fd.code = .ref c → g c = some o → K.lookup c = some o) :
    ∃ a fd, v = .ref a ∧ FunD K x x (defArgs st) (defBody st) (defScope st) [] [] a fd := by
  cases v with
  | ref a =>
    have h1 : (match g a with
      | some ⟨_, _, .func fd, _⟩ => (match fd.defaults with
        | .none => (match fd.code with
          | .ref c => (match g c with
            | some ⟨_, _, .fields vs, _⟩ => (match vs.toList with
              | _ :: .str n _ :: _ => n == x
              | _ => false)
            | _ => false)
          | _ => false)
        | _ => false)
      | _ => false) = true := h
    have e1 : (match g a with
      | some ⟨_, _, .func fd, _⟩ => some (fd.name, fd.qualname, fd.params, fd.body, fd.scope, fd.globals, fd.closure, fd.builtins)
      | _ => none) = (some (x, x, defArgs st, .stmts (defBody st), defScope st, mainGlobals, [], builtinsNs) : He.FnW) := e
    cases q : g a with
    | none =>
      rw [q] at h1
      cases h1
    | some o =>
      obtain ⟨oc, od, dt, osl⟩ := o
      rw [q] at h1 e1
      cases dt with
      | func fd =>
        have hk := hK a _ rfl q
        have hc := hC a oc od fd osl
        obtain ⟨n1, n2, n3, n4, n5, n6, n7, n8, n9, n10, n11, n12, n13, n14, n15⟩ := fd
        have e2 : (some (n1, n2, n3, n4, n5, n6, n7, n15) : He.FnW) = some (x, x, defArgs st, .stmts (defBody st), defScope st, mainGlobals, [], builtinsNs) := e1
        simp only [Option.some.injEq, Prod.mk.injEq] at e2
        obtain ⟨z1, z2, z3, z4, z5, z6, z7, z8⟩ := e2
        subst z1 z2 z3 z4 z5 z6 z7 z8
        cases n8 with
        | none =>
          cases n13 with
          | ref c =>
            have h3 : (match g c with
              | some ⟨_, _, .fields vs, _⟩ => (match vs.toList with
                | _ :: .str n _ :: _ => n == n2
                | _ => false)
              | _ => false) = true := h1
            cases qc : g c with
            | none =>
              rw [qc] at h3
              cases h3
            | some oc2 =>
              have hcc := hc c oc2 rfl q rfl qc
              refine ⟨a, _, rfl, ⟨oc, od, .none, n9, n10, n11, n12, .ref c, n14, osl, rfl, hk, ?_, .inl ⟨rfl, rfl⟩, .inl rfl⟩, ?_⟩
              · show (match K.lookup c with
                  | some ⟨_, _, .fields vs, _⟩ => (match vs.toList with | _ :: .str n _ :: _ => n == n2 | _ => false)
                  | _ => false) = true
                rw [hcc]
                rw [qc] at h3
                exact h3
              · show (match K.lookup a with
                  | some ⟨_, _, .func _, _⟩ => true
                  | some ⟨_, _, .cls _, _⟩ => PySem.W.specialIn K (.ref a) "__call__" == some (some (.builtin "type.__call__"))
                  | _ => false) = true
                rw [hk]
          | _ => cases h1
        | _ => cases h1
      | _ => cases h1
  | _ => cases h
theorem ali_of {g : Gt} {K : PySem.W.Frag} (hK : ∀ a o, a ∈ asE g → g a = some o → K.lookup a = some o) : ∀ {t : Tbl} {es : List DictEntry}, (∀ e ∈ es, e ∈ esG g) → walkB g t es = true → walkF g t es = valF t → Ali K t es
  | [], [], _, _, _ => trivial
  | [], _ :: _, _, h, _ => by cases h
  | _ :: _, [], _, h, _ => by cases h
  | (x, wt) :: r, e :: es, hm, h, f => by
    obtain ⟨h1, h2⟩ := He.ba (show (e.key.isStr x && (wantB g x e.val wt && walkB g r es)) = true from h)
    obtain ⟨h3, h4⟩ := He.ba h2
    have me : e ∈ esG g := hm e List.mem_cons_self
    have k1 : ∀ a o, e.val = .ref a → g a = some o → K.lookup a = some o := fun a o ev q => hK a o (List.mem_cons_of_mem _ (List.mem_flatMap.mpr ⟨e, me, by
      unfold addrs
      rw [ev]
      exact List.mem_cons_self⟩)) q
    have k2 : ∀ a oc od fd osl c o, e.val = .ref a → g a = some ⟨oc, od, .func fd, osl⟩ → fd.code = .ref c → g c = some o → K.lookup c = some o := fun a oc od fd osl c o ev q1 q2 q3 => hK c o (List.mem_cons_of_mem _ (List.mem_flatMap.mpr ⟨e, me, by
      unfold addrs
      rw [ev]
      show c ∈ a :: (match g a with
        | some ⟨_, _, .func fd, _⟩ => (match fd.code with
          | .ref c => [c]
          | _ => [])
        | _ => [])
      rw [q1]
      show c ∈ a :: (match fd.code with
          | .ref c => [c]
          | _ => [])
      rw [q2]
      exact List.mem_cons_of_mem _ List.mem_cons_self⟩)) q3
    have hm2 : ∀ z ∈ es, z ∈ esG g := fun z hz => hm z (List.mem_cons_of_mem _ hz)
    cases wt with
    | skip => exact ⟨h1, trivial, ali_of hK hm2 h4 f⟩
    | fn st =>
      have f2 : fnG g e.val :: walkF g r es = some (x, x, defArgs st, .stmts (defBody st), defScope st, mainGlobals, [], builtinsNs) :: valF r := f
      injection f2 with f3 f4
      exact ⟨h1, fn_ok h3 f3 k1 k2, ali_of hK hm2 h4 f4⟩
    | tup vs => exact ⟨h1, tup_ok h3 k1, ali_of hK hm2 h4 f⟩
    | blt id =>
      refine ⟨h1, ?_, ali_of hK hm2 h4 f⟩
      have h5 : bltG e.val id = true := h3
      show e.val = .builtin id
      unfold bltG at h5
      cases ev : e.val with
      | builtin i =>
        rw [ev] at h5
        rw [of_decide_eq_true h5]
      | _ =>
        rw [ev] at h5
        cases h5
theorem fc_of {t : Tbl} {h : Heap} (ht : t ≠ []) (e : obsG t h.get? = (true, valF t)) : (He.frG h.get? (asE h.get?)).In h ∧ Fc t (He.frG h.get? (asE h.get?)) := by
  refine ⟨He.frG_in, ?_⟩
  have e1 : walkB h.get? t (esG h.get?) = true := congrArg (fun z : AlG => z.1) e
  have e2 : walkF h.get? t (esG h.get?) = valF t := congrArg (fun z : AlG => z.2) e
  have a := ali_of (K := He.frG h.get? (asE h.get?)) (fun a o m q => frG_of q m) (fun _ m => m) e1 e2
  have nn : esG h.get? ≠ [] := fun z => by
    rw [z] at a
    cases t with
    | nil => exact ht rfl
    | cons _ _ => exact a
  cases q : h.get? mainGlobals with
  | none =>
    refine absurd ?_ nn
    unfold esG
    rw [q]
  | some o =>
    obtain ⟨oc, od, dt, osl⟩ := o
    cases dt with
    | dict es n =>
      refine ⟨oc, od, es, n, osl, frG_of q List.mem_cons_self, ?_⟩
      have ee : esG h.get? = es.toList := by
        unfold esG
        rw [q]
      rw [← ee]
      exact a
    | _ =>
      refine absurd ?_ nn
      unfold esG
      rw [q]
def hookG (t : Tbl) (ht : t ≠ []) : PySem.W.Hook where
  α := AlG
  obs := fun s => obsG t s.heap.get?
  val := fun _ => (true, valF t)
  says := fun _ h => ∃ K : PySem.W.Frag, K.In h ∧ Fc t K
  of := fun _ _ e => ⟨_, fc_of ht e⟩
  keeps := fun _ _ _ ⟨K, hK, c⟩ k => ⟨K, PySem.W.Frag.In.keeps hK k, c⟩
theorem obsG_eq {t : Tbl} {ht : t ≠ []} {g : Gt} {s : Shared} (h : ∀ a, g a = s.heap.get? a) : obsG t g = (hookG t ht).obs s := by
  have e : g = s.heap.get? := funext h
  rw [e] <;> rfl
/-! ### by names -/
theorem isStr_eq {v : Value} {x : Str} (h : v.isStr x = true) : ∃ t, v = .str x t := by
  cases v with
  | str s t =>
    have e : s = x := eq_of_beq (show (s == x) = true from h)
    exact ⟨t, by rw [e]⟩
  | _ => cases h
theorem ali_find {K : PySem.W.Frag} : ∀ {t : Tbl} {es : List DictEntry}, Ali K t es → (t.map (·.1)).Nodup → ∀ {x : Str} {wt : Want}, (x, wt) ∈ t → ∃ e, es.find? (fun e => e.key.isStr x) = some e ∧ Wok K x e.val wt
  | [], _, _, _, _, _, m => by cases m
  | _ :: _, [], a, _, _, _, _ => a.elim
  | (y, wy) :: r, e :: es, ⟨h1, h2, h3⟩, nd, x, wt, m => by
    rw [List.map_cons, List.nodup_cons] at nd
    rcases List.mem_cons.mp m with q | q
    · cases q
      refine ⟨e, ?_, h2⟩
      have h1' : e.key.isStr y = true := h1
      rw [List.find?_cons, h1']
    · obtain ⟨e2, f2, w2⟩ := ali_find h3 nd.2 q
      refine ⟨e2, ?_, w2⟩
      rw [List.find?_cons]
      have ne : e.key.isStr x = false := by
        cases z : e.key.isStr x with
        | false => rfl
        | true =>
          have exy : x = y := Value.isStr_inj e.key x y z h1
          subst exy
          exact absurd (List.mem_map.mpr ⟨_, q, rfl⟩) nd.1
      rw [ne]
      exact f2
theorem ali_none {K : PySem.W.Frag} {x : Str} : ∀ {t : Tbl} {es : List DictEntry}, Ali K t es → x ∉ t.map (·.1) → es.find? (fun e => e.key.isStr x) = none ∧ es.any (·.refKey) = false
  | [], [], _, _ => ⟨rfl, rfl⟩
  | [], _ :: _, a, _ => a.elim
  | _ :: _, [], a, _ => a.elim
  | (y, wy) :: r, e :: es, ⟨h1, h2, h3⟩, nm => by
    rw [List.map_cons, List.mem_cons, not_or] at nm
    obtain ⟨i1, i2⟩ := ali_none h3 nm.2
    have ne : e.key.isStr x = false := by
      cases z : e.key.isStr x with
      | false => rfl
      | true => exact absurd (Value.isStr_inj e.key x y z h1) nm.1
    refine ⟨?_, ?_⟩
    · rw [List.find?_cons, ne]
      exact i1
    · rw [List.any_cons, i2, Bool.or_false]
      obtain ⟨t, ek⟩ := isStr_eq h1
      unfold DictEntry.refKey
      rw [ek]
section
variable {t : Tbl} {K : PySem.W.Frag} {h : Heap} {mg : Str → Option Value}
theorem Fc.at_ (c : Fc t K) (nd : (t.map (·.1)).Nodup) {x : Str} {wt : Want} (m : (x, wt) ∈ t) : ∃ v, PySem.W.nsIn K mainGlobals x = some (some v) ∧ Wok K x v wt := by
  obtain ⟨oc, od, es, n, sl, lk, al⟩ := c
  obtain ⟨e, fe, we⟩ := ali_find al nd m
  refine ⟨e.val, ?_, we⟩
  unfold PySem.W.nsIn
  rw [lk]
  show (match es.toList.find? (fun e => e.key.isStr x) with
    | some e => some (some e.val)
    | none => if es.toList.any (·.refKey) then none else some none) = _
  rw [fe]
theorem Fc.free (c : Fc t K) {x : Str} (m : x ∉ t.map (·.1)) : PySem.W.nsIn K mainGlobals x = some none := by
  obtain ⟨oc, od, es, n, sl, lk, al⟩ := c
  obtain ⟨e1, e2⟩ := ali_none al m
  unfold PySem.W.nsIn
  rw [lk]
  show (match es.toList.find? (fun e => e.key.isStr x) with
    | some e => some (some e.val)
    | none => if es.toList.any (·.refKey) then none else some none) = _
  rw [e1]
  show (if es.toList.any (·.refKey) = true then none else some none) = _
  rw [e2]
  rfl
/-- a def of the text -/
structure Df (K : PySem.W.Frag) (mg : Str → Option Value) (x : Str) (st : Stmt) (f : Addr) (fd : FuncData) : Prop where
  F : FunD K x x (defArgs st) (defBody st) (defScope st) [] [] f fd
  g : mg x = some (.ref f)
theorem Fc.df (c : Fc t K) (X : K.In h) (G : h.Ns mainGlobals mg) (nd : (t.map (·.1)).Nodup) {x : Str} {st : Stmt} (m : (x, Want.fn st) ∈ t) : ∃ f fd, Df K mg x st f fd := by
  obtain ⟨v, e, a, fd, rfl, F⟩ := c.at_ nd m
  exact ⟨a, fd, F, PySem.W.mg_of X G e⟩
theorem Fc.tp (c : Fc t K) (X : K.In h) (G : h.Ns mainGlobals mg) (nd : (t.map (·.1)).Nodup) {x : Str} {vs : List V} (m : (x, Want.tup vs) ∈ t) : ∃ a, mg x = some (.ref a) ∧ ∀ H, SqT K H a vs := by
  obtain ⟨v, e, a, rfl, s, _⟩ := c.at_ nd m
  exact ⟨a, PySem.W.mg_of X G e, s⟩
theorem Fc.bl (c : Fc t K) (X : K.In h) (G : h.Ns mainGlobals mg) (nd : (t.map (·.1)).Nodup) {x : Str} {id : String} (m : (x, Want.blt id) ∈ t) : mg x = some (.builtin id) := by
  obtain ⟨v, e, rfl⟩ := c.at_ nd m
  exact PySem.W.mg_of X G e
theorem Fc.fr (c : Fc t K) (X : K.In h) (G : h.Ns mainGlobals mg) {x : Str} (m : x ∉ t.map (·.1)) : mg x = none := PySem.W.mg_none_of X G (c.free m)
end
end G7
end

section
set_option Elab.async false
set_option linter.all false
set_option maxRecDepth 100000
set_option maxHeartbeats 4000000

namespace G7
open PySem PySem.Spec PyProof.Rows L2
def topS (i : Nat) : Stmt := PySem.Challenge.pw_guestseats_k12_whole_ever_likeliest_numb.main.body.getD i (.Pass ⟨0, 0, 0, 0⟩)
abbrev s_is_whole : Stmt := topS 9
abbrev s_is_between : Stmt := topS 10
abbrev s_are_wholes : Stmt := topS 11
abbrev s_divisor_of : Stmt := topS 12
abbrev s_lowest : Stmt := topS 13
abbrev s_bits_in : Stmt := topS 15
abbrev s_is_ratio : Stmt := topS 19
abbrev s_ratio : Stmt := topS 20
abbrev s_plus : Stmt := topS 21
abbrev s_times : Stmt := topS 23
abbrev s_power : Stmt := topS 25
abbrev s_is_below : Stmt := topS 27
abbrev s_is_amount : Stmt := topS 56
abbrev s_is_carrier : Stmt := topS 57
abbrev s_check_carrier : Stmt := topS 58
abbrev s_seat_count : Stmt := topS 60
abbrev s_counts_in : Stmt := topS 63
abbrev s_counts_by : Stmt := topS 64
abbrev s_bars : Stmt := topS 70
abbrev s_barring : Stmt := topS 71
abbrev s_ever_likeliest : Stmt := topS 72
abbrev s_barring_pair : Stmt := topS 73
abbrev s_certify_likeliest : Stmt := topS 139
abbrev s_shows_likeliest : Stmt := topS 142
abbrev s_is_of_one : Stmt := topS 160
abbrev s_is_claim : Stmt := topS 163
abbrev s_shows_of_carriers : Stmt := topS 165
abbrev s_accepts : Stmt := topS 167
abbrev s_law_vat : Stmt := topS 169
abbrev s_law_sip : Stmt := topS 170
abbrev s_law_of : Stmt := topS 171
abbrev s_law_common : Stmt := topS 172
abbrev s_law_low : Stmt := topS 173
abbrev s_law_add : Stmt := topS 174
abbrev s_law_mul : Stmt := topS 175
abbrev s_law_under : Stmt := topS 176
abbrev s_law_power : Stmt := topS 177
abbrev s_law_some : Stmt := topS 178
abbrev s_law_many : Stmt := topS 179
abbrev s_law_has : Stmt := topS 180
abbrev s_law_count_seats : Stmt := topS 181
abbrev s_law_product : Stmt := topS 182
abbrev s_law_free : Stmt := topS 183
abbrev s_law_knot : Stmt := topS 184
abbrev s_law_knots : Stmt := topS 185
abbrev s_law_bench : Stmt := topS 186
abbrev s_law_carrier : Stmt := topS 187
abbrev s_law_counts : Stmt := topS 188
abbrev s_law_laps : Stmt := topS 189
abbrev s_law_bars : Stmt := topS 190
abbrev s_law_raised : Stmt := topS 191
abbrev s_law_barring : Stmt := topS 192
abbrev s_law_claimed_right : Stmt := topS 193
abbrev s_law_right : Stmt := topS 194
abbrev s_law : Stmt := topS 195
def tb0 : Tbl := [("__name__", .skip), ("__doc__", .skip), ("__package__", .skip), ("__loader__", .skip), ("__spec__", .skip), ("__annotations__", .skip), ("__builtins__", .skip), ("__file__", .skip), ("__cached__", .skip), ("gcd", .blt "math.gcd"), ("lcm", .skip), ("SeatError", .skip), ("InvalidStrength", .skip), ("InvalidCarrier", .skip), ("InvalidNumber", .skip), ("InvalidBoard", .skip), ("InvalidLooks", .skip), ("is_whole", .fn s_is_whole), ("is_between", .fn s_is_between), ("are_wholes", .fn s_are_wholes), ("divisor_of", .fn s_divisor_of), ("lowest", .fn s_lowest), ("sign_of", .skip), ("bits_in", .fn s_bits_in)]
def tb1 : Tbl := [("ZERO", .tup [.int 0, .int 1]), ("ONE", .tup [.int 1, .int 1]), ("is_ratio", .fn s_is_ratio), ("ratio", .fn s_ratio), ("plus", .fn s_plus), ("minus", .skip), ("times", .fn s_times), ("over", .skip), ("power", .fn s_power), ("total_of", .skip), ("is_below", .fn s_is_below), ("side_of_two", .skip), ("common_low", .skip), ("made_whole", .skip), ("trimmed", .skip), ("poly_plus", .skip), ("poly_scaled", .skip), ("poly_minus", .skip), ("poly_times", .skip), ("poly_up", .skip), ("slope_of", .skip), ("formed", .skip), ("polys_of", .skip), ("number_at", .skip)]
def tb2 : Tbl := [("sign_at", .skip), ("divided", .skip), ("common_part", .skip), ("single_roots", .skip), ("without_nought", .skip), ("chain_of", .skip), ("changes_at", .skip), ("bounds_of", .skip), ("parting", .skip), ("spans_of", .skip), ("looks_of", .skip), ("row_of", .skip), ("SIZES", .tup [.int 2, .int 4, .int 8, .int 16, .int 32]), ("is_amount", .fn s_is_amount), ("is_carrier", .fn s_is_carrier), ("check_carrier", .fn s_check_carrier), ("check_strength", .skip), ("seat_count", .fn s_seat_count), ("has_guest", .skip), ("with_seats", .skip), ("counts_in", .fn s_counts_in), ("counts_by", .fn s_counts_by), ("split_by", .skip), ("terms_at", .skip)]
def tb3 : Tbl := [("row_at", .skip), ("mean_of", .skip), ("bars", .fn s_bars), ("barring", .fn s_barring), ("ever_likeliest", .fn s_ever_likeliest), ("barring_pair", .fn s_barring_pair), ("fill_gap", .skip), ("MOST_PAIRS", .skip), ("MOST_SEATS_baths", .skip), ("is_pair", .skip), ("wrong_pair", .skip), ("is_bath", .skip), ("bound_by", .skip), ("bound_polys", .skip), ("bound_gap", .skip), ("BOARD_SIZES", .skip), ("SORT_A", .skip), ("SORT_B", .skip), ("is_board", .skip), ("check_board", .skip), ("board_count", .skip), ("many_of", .skip), ("rows_beside", .skip), ("counted", .skip)]
def tb4 : Tbl := [("push_poly", .skip), ("fills_by", .skip), ("check_both_strengths", .skip), ("push", .skip), ("push_row", .skip), ("is_share", .skip), ("MOST_LOOKS", .skip), ("MOST_OF_LOOKS", .skip), ("check_look_seats", .skip), ("is_look_for", .skip), ("wrong_look", .skip), ("are_looks", .skip), ("check_looks", .skip), ("are_shares", .skip), ("inequalities_of", .skip), ("is_fitting", .skip), ("rising_of", .skip), ("bit_of", .skip), ("is_free", .skip), ("free_standings", .skip), ("link_over", .skip), ("seat_pairs", .skip), ("all_links", .skip), ("weights_at", .skip)]
def tb5 : Tbl := [("share_of", .skip), ("pull_of", .skip), ("PLACES", .skip), ("STEPS", .skip), ("link_between", .skip), ("links_on", .skip), ("low_link", .skip), ("board_links", .skip), ("keeps_apart", .skip), ("powers_of", .skip), ("table_of", .skip), ("Squares", .skip), ("certify_likeliest", .fn s_certify_likeliest), ("shows_two", .skip), ("shows_likeliest", .fn s_shows_likeliest), ("shows_seat", .skip), ("shows_unlinked", .skip), ("is_lowering", .skip), ("shows_draws", .skip), ("shows_baths", .skip), ("shows_apart", .skip), ("shows_helped", .skip), ("are_weights", .skip), ("sum_for", .skip)]
def tb6 : Tbl := [("shows_looks", .skip), ("mean_by", .skip), ("are_bounding", .skip), ("shows_fills", .skip), ("MOST_SEATS_claims", .skip), ("is_of_carriers", .skip), ("is_of_one", .fn s_is_of_one), ("is_of_others", .skip), ("is_of_looks", .skip), ("is_claim", .fn s_is_claim), ("shows_of_carriers", .fn s_shows_of_carriers), ("shows_of_others", .skip), ("accepts", .fn s_accepts), ("_law_vat", .fn s_law_vat), ("_law_sip", .fn s_law_sip), ("_law_of", .fn s_law_of), ("_law_common", .fn s_law_common), ("_law_low", .fn s_law_low), ("_law_add", .fn s_law_add), ("_law_mul", .fn s_law_mul), ("_law_under", .fn s_law_under), ("_law_power", .fn s_law_power), ("_law_some", .fn s_law_some), ("_law_many", .fn s_law_many)]
def tb7 : Tbl := [("_law_has", .fn s_law_has), ("_law_count_seats", .fn s_law_count_seats), ("_law_product", .fn s_law_product), ("_law_free", .fn s_law_free), ("_law_knot", .fn s_law_knot), ("_law_knots", .fn s_law_knots), ("_law_bench", .fn s_law_bench), ("_law_carrier", .fn s_law_carrier), ("_law_counts", .fn s_law_counts), ("_law_laps", .fn s_law_laps), ("_law_bars", .fn s_law_bars), ("_law_raised", .fn s_law_raised), ("_law_barring", .fn s_law_barring), ("_law_claimed_right", .fn s_law_claimed_right), ("_law_right", .fn s_law_right), ("law", .fn s_law)]
def tbl : Tbl := tb0 ++ (tb1 ++ (tb2 ++ (tb3 ++ (tb4 ++ (tb5 ++ (tb6 ++ (tb7)))))))
theorem tbl_nd : (tbl.map (·.1)).Nodup := by decide +kernel
theorem tbl_ne : tbl ≠ [] := by
  intro h
  exact absurd (congrArg List.length h) (by decide +kernel)
end G7
end

section
set_option Elab.async false
set_option linter.all false
set_option maxRecDepth 100000
set_option maxHeartbeats 0

namespace G7
open PySem PySem.Spec PySem.W PySem.Calls PyProof.Rows L2
def loose0 : List Str := ["__name__", "SeatError", "InvalidStrength", "InvalidCarrier", "InvalidNumber", "InvalidBoard", "InvalidLooks", "is_whole", "is_between", "are_wholes", "divisor_of", "lowest", "sign_of", "bits_in", "ZERO", "ONE", "is_ratio", "ratio", "plus", "minus", "times", "over", "power", "total_of", "is_below", "side_of_two", "common_low", "made_whole", "trimmed", "poly_plus"]
def loose1 : List Str := ["poly_scaled", "poly_minus", "poly_times", "poly_up", "slope_of", "formed", "polys_of", "number_at", "sign_at", "divided", "common_part", "single_roots", "without_nought", "chain_of", "changes_at", "bounds_of", "parting", "spans_of", "looks_of", "row_of", "SIZES", "is_amount", "is_carrier", "check_carrier", "check_strength", "seat_count", "has_guest", "with_seats", "counts_in", "counts_by"]
def loose2 : List Str := ["split_by", "terms_at", "row_at", "mean_of", "bars", "barring", "ever_likeliest", "barring_pair", "fill_gap", "MOST_PAIRS", "MOST_SEATS_baths", "is_pair", "wrong_pair", "is_bath", "bound_by", "bound_polys", "bound_gap", "BOARD_SIZES", "SORT_A", "SORT_B", "is_board", "check_board", "board_count", "many_of", "rows_beside", "counted", "push_poly", "fills_by", "check_both_strengths", "push"]
def loose3 : List Str := ["push_row", "is_share", "MOST_LOOKS", "MOST_OF_LOOKS", "check_look_seats", "is_look_for", "wrong_look", "are_looks", "check_looks", "are_shares", "inequalities_of", "is_fitting", "rising_of", "bit_of", "is_free", "free_standings", "link_over", "seat_pairs", "all_links", "weights_at", "share_of", "pull_of", "PLACES", "STEPS", "link_between", "links_on", "low_link", "board_links", "keeps_apart", "powers_of"]
def loose4 : List Str := ["table_of", "Squares", "certify_likeliest", "shows_two", "shows_likeliest", "shows_seat", "shows_unlinked", "is_lowering", "shows_draws", "shows_baths", "shows_apart", "shows_helped", "are_weights", "sum_for", "shows_looks", "mean_by", "are_bounding", "shows_fills", "MOST_SEATS_claims", "is_of_carriers", "is_of_one", "is_of_others", "is_of_looks", "is_claim", "shows_of_carriers", "shows_of_others", "accepts", "_law_vat", "_law_sip", "_law_of"]
def loose5 : List Str := ["_law_common", "_law_low", "_law_add", "_law_mul", "_law_under", "_law_power", "_law_some", "_law_many", "_law_has", "_law_count_seats", "_law_product", "_law_free", "_law_knot", "_law_knots", "_law_bench", "_law_carrier", "_law_counts", "_law_laps", "_law_bars", "_law_raised", "_law_barring", "_law_claimed_right", "_law_right"]
def loose : List Str := loose0 ++ loose1 ++ loose2 ++ loose3 ++ loose4 ++ loose5
abbrev R : PySem.W.OpenRow := PySem.W.OpenLaw.row PySem.Challenge.rw_guestseats_k12_whole_ever_likeliest_numb
abbrev qv : Program := PySem.W.view R.prog [0, 195]
abbrev hk : PySem.W.Hook := hookG tbl tbl_ne
def ob (s : PySem.W.SharedT) : AlG := obsG tbl (HandSHeadRun.getT s)
theorem ob_eq (s : PySem.W.SharedT) : ob s = hk.obs s.abs := obsG_eq (HandSHeadRun.getT_eq s)
/-- the state ahead of the top, the state behind it -/
noncomputable def wh (w : World) : Option (Shared × PySem.W.SharedT) := HandSHeadRun.wholeF (fun p => HandSHeadRun.stepQ (HandSHeadRun.denQ HandSHeadRun.tabQ) p w) HandSHeadRun.fenceQ 12000 R.prog
theorem run1 (w : World) : (wh w).map (fun x => namesBound R.prog x.2.abs.heap && gensDone x.2.abs) = some true := by
  kernel_rfl
theorem run2 (w : World) : (wh w).map (fun x => HandSHeadRun.seenQ qv loose (importedModules R.prog.main.body) (fun s => xlAt qv [] s && recOk R.toRowW.records s) x.2.abs) = some (openGood qv loose) := by
  kernel_rfl
theorem run3 (w : World) : (wh w).map (fun x => (staticsOk (importedModules R.prog.main.body) x.1.heap x.2.abs.heap && laidKept x.1.heap x.2.abs.heap, ob x.2)) = some (true, true, valF tbl) := by
  kernel_rfl
theorem run (w : World) : HandSHeadRun.RunEqI R qv hk ob 12000 loose w := by
  obtain ⟨x, hx, h1⟩ := Option.map_eq_some_iff.mp (run1 w)
  obtain ⟨y, hy, h2⟩ := Option.map_eq_some_iff.mp (run2 w)
  obtain ⟨z, hz, h3⟩ := Option.map_eq_some_iff.mp (run3 w)
  rw [hx] at hy hz
  cases hy
  cases hz
  obtain ⟨a1, a2⟩ := He.ba h1
  obtain ⟨b, c⟩ := Prod.mk.inj h3
  obtain ⟨b1, b2⟩ := He.ba b
  have l : HandSHeadRun.looksF R.prog x.1.heap x.2.abs = true := by
    show (staticsOk (importedModules R.prog.main.body) x.1.heap x.2.abs.heap && namesBound R.prog x.2.abs.heap && gensDone x.2.abs && laidKept x.1.heap x.2.abs.heap) = true
    rw [a1, a2, b1, b2]
    rfl
  show (wh w).map (fun x => (HandSHeadRun.looksF R.prog x.1.heap x.2.abs, HandSHeadRun.seenQ qv loose (importedModules R.prog.main.body) (fun s => xlAt qv [] s && recOk R.toRowW.records s) x.2.abs, ob x.2)) = some (true, openGood qv loose, hk.val w)
  rw [hx]
  show some (HandSHeadRun.looksF R.prog x.1.heap x.2.abs, HandSHeadRun.seenQ qv loose (importedModules R.prog.main.body) (fun s => xlAt qv [] s && recOk R.toRowW.records s) x.2.abs, ob x.2) = some (true, openGood qv loose, (true, valF tbl))
  rw [l, h2, c]
end G7
end

section
set_option Elab.async false
set_option linter.all false
set_option maxRecDepth 100000
set_option maxHeartbeats 4000000
/-! what the walks lean on: heaps, calls that know that no repr is under way, repr of data, calls by keywords alone -/
namespace G7
open PySem PySem.Spec PyProof.Rows L2
/-! ### heaps -/
theorem same_new {H : Hp} {p : Addr} {o : HO} (h : H p = none) : Same H (upd H p o) := fun b x e => by
  rw [upd_ne (ne_of_none e h)]
  exact e
theorem Same.mut {H H' : Hp} {p : Addr} {o : HO} (e : Same H H') (h : H p = none) : Same H (upd H' p o) := fun a u ha => by
  rw [upd_ne (ne_of_none ha h)]
  exact e a u ha
theorem Same.tup {K : PySem.W.Frag} {H H' : Hp} {a : Addr} {xs : List V} (e : Same H H') (h : SqT K H a xs) : SqT K H' a xs := by
  rcases h with (h | ⟨o, h⟩) | h
  · exact .inl (.inl (e _ _ h))
  · exact .inl (.inr ⟨o, e _ _ h⟩)
  · exact .inr h
/-! ### a def that is called where no repr is under way -/
structure FnG (P : Program) (w : World) (K : PySem.W.Frag) (mg : Str → Option Value) (base : Heap) (k : Nat) (f : Addr) (fd : FuncData) (ps : List Str) (sp : Sp) : Prop where
  many : ∀ vs H Q E, sp vs H Q E → vs.length = ps.length
  goes : ∀ (B : Around) (fs : List Env) (z : Shared) (G : Hp) (as : Args) (us : List Value) (vs : List V) (Q : VK) (E : XK), B.guards = some [] → Room k B → Env0 P w K mg base B fs z G → BindsTo z fd as (ps.zip us) →
    Vals vs us → sp vs G Q E → codeAny (model P w) B (.call (.ref f) as) (CR CX0 fs P w G z Q E) z
section
variable {P : Program} {w : World} {K : PySem.W.Frag} {mg : Str → Option Value} {base : Heap} {x qual : Str} {params : Arguments} {body : List Stmt} {scope : Scope} {f : Addr} {fd : FuncData}
theorem fnG_of {N ps : List Str} {k : Nat} {sp : Sp} (D : FunD K x qual params body scope [] [] f fd) (S : FnScope N ps scope) (many : ∀ vs H Q E, sp vs H Q E → vs.length = ps.length)
    (walk : ∀ (cdv : Value) (B : Around) (fs : List Env) (z : Shared) (G : Hp) (vs : List V) (Q : VK) (E : XK), (B.deeper (envOfC qual scope z.heap.objs.size f cdv)).guards = some [] → Room k (B.deeper (envOfC qual scope z.heap.objs.size f cdv)) → sp vs G Q E →
      ∃ t, PSs (cxOf CX0 P w K mg base N qual scope f cdv B fs z G E) body t ∧ t { nx := fun _ G' => Q .non G', rt := Q } (start N vs) G) : FnG P w K mg base (k + 1) f fd ps sp := by
  obtain ⟨oc, od, dV, kV, doc, pm, an, cdv, ct, osl, rfl, look, hcode, -, -⟩ := D.ex
  constructor
  · exact many
  intro B fs z G as us vs Q E gd room e0 bind rel asked
  have mlen := many _ _ _ _ asked
  have inK : K.In z.heap := e0.mod.kin.keeps fun b o eq => (e0.bs b o eq).1
  have noLim : z.heap.NoLimit := e0.mod.nolimit.keeps fun b o eq => (e0.bs b o eq).1
  have kinds : ∀ q ∈ ps.zip us, scope.names.lookup q.1 = some .local ∨ (scope.names.lookup q.1 = some .cell ∧ ((cellsFrom (z.heap.objs.size + 1) scope.names []).lookup q.1).isSome = true) := by
    rintro ⟨n, u⟩ hq
    cases S.par n (List.of_mem_zip hq).1 with
    | inl l => exact .inl l
    | inr c => exact .inr ⟨c, PySem.W.cellsFrom_some _ _ _ (.inl c)⟩
  apply codeAny_call_function room.depth (inK _ _ look) rfl S.co S.gen rfl (PySem.W.codeRec_of inK hcode) (bind _ _ _ _ ?_)
  apply wpAny_newFunctionEnv_cells S.kind kinds
  intro env he z1 inCall
  subst he
  refine ⟨noLim.keeps inCall.toInCall.keep, ?_⟩
  apply codeAny_func
  obtain ⟨t, ht, hq⟩ := walk cdv B fs z G vs Q E (by exact gd) (room.deeper _) asked
  have J : Inv (cxOf CX0 P w K mg base N qual scope f cdv B fs z G E) [] (start N vs) G z1 := inv_start S room.hd e0 mlen rel inCall
  refine wpAny_mono (ht.run [] z1 (start N vs) G _ J hq) ?_ ?_
  · intro fl z' got
    cases fl with
    | ret u =>
      obtain ⟨v, σ', G', J2, rv, q⟩ := got
      exact ⟨v, G', J2.os, J2.bare, J2.base, J2.hok, rv, q⟩
    | next =>
      obtain ⟨σ', G', J2, q⟩ := got
      exact ⟨V.non, G', J2.os, J2.bare, J2.base, J2.hok, rfl, q⟩
    | brk => exact got.elim fun _ r => r.elim fun _ r => r.2.elim
    | cont => exact got.elim fun _ r => r.elim fun _ r => r.2.elim
  · intro e z' got
    exact got
end
section
variable {X : Cx} {k : Nat} {f : Addr} {fd : FuncData} {ps : List Str} {sp : Sp} {x : Str} {p pos : Pos} {e : Expr} {es : List Expr} {t : TA} {E : XK}
/-- f(e, ..) where no repr is under way -/
theorem pe_callG (F : FnG X.prog X.w X.K X.mg X.base k f fd ps sp) (gd : X.A.guards = some []) (room : Room k X.A) (hg : Gl X x) (hm : X.mg x = some (.ref f)) (hk : PySem.W.keepIn X.K (.ref f) = true) (hb : Binds X.K fd ps []) (pass : Passes CX0 X E)
    (ha : PA X (e :: es) t) (hdb : (x == ("__debug__" : Str)) = false := by decide) (he : starEach (e :: es) X.env = (false, eval e X.env) :: starEach es X.env := by rfl) (hpl : (backTo pos (starEach es X.env)).any (·.1) = false := by rfl) :
    PE X (.Call (.Name x p) (e :: es) [] pos) (tCall sp [] E t) := by
  constructor
  intro pins z σ G Q I asked
  apply wpAny_Call_Name_kw (ld_glob I hg hm ?_ hdb)
  refine PySem.W.callWith_K (h₀ := X.base) I.ok.mod.kin hk ?_ he hpl
  refine thn (ha.run pos pins z σ G _ I asked) ?_
  rintro us z1 ⟨vs, G1, I1, rel, q⟩
  refine ⟨I1.kIn, ?_⟩
  rw [List.append_nil] at q
  have eq := rel.length
  rw [F.many _ _ _ _ q] at eq
  have bd := hb z1 us I1.kIn (by rw [List.append_nil]; exact eq.symm)
  rw [List.append_nil] at bd
  apply wpAny_call
  refine codeAny_mono (F.goes X.A X.stack z1 G1 ⟨us, []⟩ us vs Q E gd room I1.env0 bd rel q) ?_
  intro r z' got
  cases r with
  | error er => exact pass pins σ G1 z1 er z' I1 got
  | ok fl =>
    cases fl with
    | ret u => exact I1.after got
    | _ => exact got.elim
/-- f(k = v, ..): keywords alone -/
theorem pe_callKs {CX : CXT} {ks : List Str} {kws : List Keyword} {tk : TA} {gV : List V → List V → List V} {g : List Value → List Value → List Value} (F : FnOk X.prog X.w X.K X.mg X.base CX k f fd ps sp) (room : Room k X.A) (hg : Gl X x) (hm : X.mg x = some (.ref f)) (hk : PySem.W.keepIn X.K (.ref f) = true)
    (hb : KBinds X.K fd ps ks g gV) (pass : Passes CX X E) (hkw : PK X kws tk) (hall : (backToKw pos (keywordEach kws X.env)).all (·.1.isSome) = true := by rfl) (hks : (backToKw pos (keywordEach kws X.env)).filterMap (·.1) = ks := by rfl)
    (hdb : (x == ("__debug__" : Str)) = false := by decide) (hpl : ((backTo pos (starEach [] X.env)).any (·.1) || (backToKw pos (keywordEach kws X.env)).any (·.1.isNone)) = false := by rfl) :
    PE X (.Call (.Name x p) [] kws pos) (tCallK sp gV E tNil tk) := by
  constructor
  intro pins z σ G Q I asked
  apply wpAny_Call_Name_kw (ld_glob I hg hm ?_ hdb)
  refine PySem.W.callWith_KW0 (h₀ := X.base) I.ok.mod.kin hk hall ?_ hpl
  have asked2 : tk σ G fun zs G2 => sp (gV [] zs) G2 Q E := asked
  refine thn (hkw.run pos pins z σ G _ I asked2) ?_
  rintro ws z2 ⟨zs, G2, I2, rz, q2⟩
  refine ⟨I2.kIn, ?_⟩
  rw [hks]
  exact run_fnk (us := []) (vs := []) F room hb pass I2 .nil rz q2
/-! ### repr of data -/
def rReprD (K : PySem.W.Frag) : List V → Hp → VK → Prop := fun vs H Q => ∃ (v : V) (d : PyData), vs = [v] ∧ Dp K H v d ∧ d.showable = true ∧ d.hasDict = false ∧ d.depth ≤ 30 ∧ d.shown.length ≤ sizeLine ∧ Q (.str d.shown) H
theorem call_reprD (gd : X.A.guards = some []) (room : X.A.units + 64 < cLine) : CallR X (.builtin "repr") (rReprD X.K) := by
  intro pins z σ G vs us Q I rel asked
  obtain ⟨v, d, rfl, dp, show_, nod, dep, len, q⟩ := asked
  obtain ⟨u, rfl, rv⟩ := vals1 rel
  cases dp with
  | non =>
    cases rv
    exact PySem.P.repr_of_none ⟨.str (PyData.shown .none), G, I.tok _, ⟨_, rfl⟩, q⟩
  | bl b =>
    cases rv
    refine PySem.P.repr_of_bool ⟨.str (PyData.shown (.bool b)), G, I.tok _, ⟨z.toks, ?_⟩, q⟩
    rw [PyData.shown]
  | int i =>
    obtain ⟨t, rfl⟩ := rv
    refine PySem.P.repr_of_int ?_ ⟨.str (PyData.shown (.int i)), G, I.tok _, ⟨_, rfl⟩, q⟩
    rw [PyData.showable] at show_
    exact of_decide_eq_true show_
  | str x =>
    obtain ⟨t, rfl⟩ := rv
    rw [PyData.shown] at len
    exact PySem.P.repr_of_str ⟨.str (PyData.shown (.str x)), G, I.tok _, ⟨_, rfl⟩, q⟩ len
  | lst hs ha =>
    cases rv
    obtain ⟨as, r⟩ := Dp.reads I _ _ _ (Dp.lst hs ha) rfl
    refine repr_of_reads' r show_ (PyData.noDict_hsm nod) gd (by omega) (fun _ _ h => h) ?_ len
    intro h' u tk keep
    exact ⟨.str (PyData.shown (.list _)), G, I.kept keep, ⟨_, rfl⟩, q⟩
  | tup hs ha =>
    cases rv
    obtain ⟨as, r⟩ := Dp.reads I _ _ _ (Dp.tup hs ha) rfl
    refine repr_of_reads' r show_ (PyData.noDict_hsm nod) gd (by omega) (fun _ _ h => h) ?_ len
    intro h' u tk keep
    exact ⟨.str (PyData.shown (.tuple _)), G, I.kept keep, ⟨_, rfl⟩, q⟩
end
end G7
end

section
set_option Elab.async false
set_option linter.all false
set_option maxRecDepth 100000
set_option maxHeartbeats 4000000
/-! tuples stay; comprehensions whose items are told by a word of each -/
namespace G7
open PySem PySem.Spec PyProof.Rows L2
/-- all tuples stay -/
def Tx (H H' : Hp) : Prop := ∀ b, (∀ xs, H b = some (.tup xs) → H' b = some (.tup xs)) ∧ ∀ o xs, H b = some (.frz o (.tup xs)) → H' b = some (.frz o (.tup xs))
theorem Tx.refl (H : Hp) : Tx H H := fun _ => ⟨fun _ h => h, fun _ _ h => h⟩
theorem Tx.trans {H H1 H2 : Hp} (a : Tx H H1) (b : Tx H1 H2) : Tx H H2 := fun c => ⟨fun xs h => (b c).1 xs ((a c).1 xs h), fun o xs h => (b c).2 o xs ((a c).2 o xs h)⟩
theorem Tx.of {H H' : Hp} (s : Same H H') : Tx H H' := fun b => ⟨fun _ h => s b _ h, fun _ _ h => s b _ h⟩
theorem Tx.lst {H : Hp} {p : Addr} {xs : List V} {o : HO} (h : H p = some (.lst xs)) : Tx H (upd H p o) := fun b => by
  constructor
  · intro ys e
    rw [upd_ne (ne_of e h (by intro z; cases z))]
    exact e
  · intro ob ys e
    rw [upd_ne (ne_of e h (by intro z; cases z))]
    exact e
theorem Tx.sq {K : PySem.W.Frag} {H H' : Hp} {a : Addr} {xs : List V} (t : Tx H H') (h : SqT K H a xs) : SqT K H' a xs := by
  rcases h with (h | ⟨o, h⟩) | h
  · exact .inl (.inl ((t a).1 _ h))
  · exact .inl (.inr ⟨o, (t a).2 _ _ h⟩)
  · exact .inr h
/-- all but one stay -/
def Sb (a : Addr) (H H' : Hp) : Prop := ∀ b o, b ≠ a → H b = some o → H' b = some o
theorem Sb.refl (a : Addr) (H : Hp) : Sb a H H := fun _ _ _ h => h
theorem Sb.trans {a : Addr} {H H1 H2 : Hp} (x : Sb a H H1) (y : Sb a H1 H2) : Sb a H H2 := fun b o n h => y b o n (x b o n h)
theorem Sb.of {a : Addr} {H H' : Hp} (s : Same H H') : Sb a H H' := fun b o _ h => s b o h
theorem Sb.upd {a : Addr} {H : Hp} {o : HO} : Sb a H (upd H a o) := fun b u n h => by
  rw [upd_ne n]
  exact h
theorem Sb.tx {a : Addr} {H H' : Hp} {xs : List V} (s : Sb a H H') (h : H a = some (.lst xs)) : Tx H H' := fun b => by
  constructor
  · intro ys e
    exact s b _ (ne_of e h (by intro z; cases z)) e
  · intro ob ys e
    exact s b _ (ne_of e h (by intro z; cases z)) e
theorem tyx_tup {K : PySem.W.Frag} {H : Hp} {a : Addr} {xs : List V} (h : SqT K H a xs) : TyX K H (.ref a) (.type "tuple") := by
  rcases h with (h | ⟨o, h⟩) | ⟨o, its, n, hk, hc, _⟩
  · exact .base (.tup h)
  · exact .fTuple h
  · exact .kTuple hk hc
/-! ### comprehensions -/
/-- the items so far -/
def Itm (H1 : Hp) (D : Addr) (Pr : Nat → V → Hp → Prop) (i : Nat) (H : Hp) : Prop := Same H1 H ∧ ∃ ys, H D = some (.lst ys) ∧ ys.length = i ∧ ∀ (j : Nat) y, ys[j]? = some y → Pr j y H
theorem itm_zero {H1 : Hp} {D : Addr} {Pr : Nat → V → Hp → Prop} (hD : H1 D = none) : Itm H1 D Pr 0 (upd H1 D (.lst [])) :=
  ⟨same_new hD, [], upd_same, rfl, fun j y e => by cases j <;> cases e⟩
theorem itm_turn {H1 H : Hp} {D : Addr} {Pr : Nat → V → Hp → Prop} (mono : ∀ j y H2 H3, Tx H2 H3 → Pr j y H2 → Pr j y H3) (hD : H1 D = none) {i : Nat} (hi : i < 100000) {te : TE} {σ : L2.St}
    (he : ∀ H2, Same H1 H2 → ∀ R : VK, (∀ y H3, Same H2 H3 → Pr i y H3 → R y H3) → te σ H2 R) (p : Itm H1 D Pr i H) :
    te σ H fun y H4 => ∃ acc, H4 D = some (.lst acc) ∧ acc.length < sizeLine ∧ Itm H1 D Pr (i + 1) (upd H4 D (.lst (acc ++ [y]))) := by
  obtain ⟨s, ys, e, l, all⟩ := p
  refine he H s _ fun y H4 s4 py => ?_
  have e4 := s4 D _ e
  refine ⟨ys, e4, by rw [l]; exact Nat.lt_of_lt_of_le hi (by decide), Same.mut (s.trans s4) hD, ys ++ [y], upd_same, by rw [List.length_append, l]; rfl, fun j z ez => ?_⟩
  have t : Tx H4 (upd H4 D (.lst (ys ++ [y]))) := Tx.lst e4
  by_cases hj : j < ys.length
  · rw [List.getElem?_append_left hj] at ez
    exact mono _ _ _ _ ((Tx.of s4).trans t) (all j z ez)
  · rw [List.getElem?_append_right (by omega)] at ez
    have ej : j - ys.length = 0 := by
      cases q : j - ys.length with
      | zero => rfl
      | succ m =>
        rw [q] at ez
        cases ez
    rw [ej] at ez
    cases ez
    have e2 : j = i := by omega
    rw [e2]
    exact mono _ _ _ _ t py
section
variable {K : PySem.W.Frag} {te : TE} {j : Nat} {vs : List Nat} {σ : L2.St} {H1 : Hp} {Q : VK} (Pr : Nat → V → Hp → Prop)
/-- over a tuple -/
theorem lcT {a : Addr} {xs : List V} {tl : TE} (ht : ∀ R : VK, R (.ref a) H1 → tl σ H1 R) (hS : SqT K H1 a xs) (hn : xs.length ≤ 100000) (hw : ∀ x, wipe ((wipe σ vs).set j (some x)) vs = wipe σ vs) (mono : ∀ j y H2 H3, Tx H2 H3 → Pr j y H2 → Pr j y H3)
    (he : ∀ i x, xs[i]? = some x → ∀ H2, Same H1 H2 → ∀ R : VK, (∀ y H3, Same H2 H3 → Pr i y H3 → R y H3) → te ((wipe σ vs).set j (some x)) H2 R)
    (k : ∀ D H2 ys, H1 D = none → Same H1 H2 → H2 D = some (.lst ys) → ys.length = xs.length → (∀ (i : Nat) y, ys[i]? = some y → Pr i y H2) → Q (.ref D) H2) :
    tLc (iTup K tl) (gName j) tYes te vs σ H1 Q := ht _ ⟨a, rfl, ⟨xs, hS⟩, fun D hD => lc_tup (xs := xs) (Itm H1 D Pr) (itm_zero hD) (fun i H _ p => Tx.sq (Tx.of p.1) hS)
  (fun i x H hx p => ⟨hw x, itm_turn mono hD (Nat.lt_of_lt_of_le (List.getElem?_eq_some_iff.mp hx).1 hn) (he i x hx) p⟩) fun H p => by
    obtain ⟨s, ys, e, l, all⟩ := p
    exact k D H ys hD s e l all⟩
/-- over a list -/
theorem lcL {a : Addr} {xs : List V} {tl : TE} (ht : ∀ R : VK, R (.ref a) H1 → tl σ H1 R) (hS : SqL K H1 a xs) (hn : xs.length ≤ 100000) (hw : ∀ x, wipe ((wipe σ vs).set j (some x)) vs = wipe σ vs) (mono : ∀ j y H2 H3, Tx H2 H3 → Pr j y H2 → Pr j y H3)
    (he : ∀ i x, xs[i]? = some x → ∀ H2, Same H1 H2 → ∀ R : VK, (∀ y H3, Same H2 H3 → Pr i y H3 → R y H3) → te ((wipe σ vs).set j (some x)) H2 R)
    (k : ∀ D H2 ys, H1 D = none → Same H1 H2 → H2 D = some (.lst ys) → ys.length = xs.length → (∀ (i : Nat) y, ys[i]? = some y → Pr i y H2) → Q (.ref D) H2) :
    tLc (iList K tl) (gName j) tYes te vs σ H1 Q := ht _ ⟨a, rfl, ⟨xs, hS⟩, fun D hD => lc_list (xs := xs) (Itm H1 D Pr) (itm_zero hD) (fun i H _ p => Same.seq p.1 hS)
  (fun i x H hx p => ⟨hw x, itm_turn mono hD (Nat.lt_of_lt_of_le (List.getElem?_eq_some_iff.mp hx).1 hn) (he i x hx) p⟩) fun H p => by
    obtain ⟨s, ys, e, l, all⟩ := p
    exact k D H ys hD s e l all⟩
/-- over a range -/
theorem lcR {n : Nat} {ta : TA} (ht : ∀ R : List V → Hp → Prop, R [.int (n : Int)] H1 → ta σ H1 R) (hn : n ≤ 100000) (hw : ∀ x, wipe ((wipe σ vs).set j (some x)) vs = wipe σ vs) (mono : ∀ j y H2 H3, Tx H2 H3 → Pr j y H2 → Pr j y H3)
    (he : ∀ i, i < n → ∀ H2, Same H1 H2 → ∀ R : VK, (∀ y H3, Same H2 H3 → Pr i y H3 → R y H3) → te ((wipe σ vs).set j (some (.int (i : Int)))) H2 R)
    (k : ∀ D H2 ys, H1 D = none → Same H1 H2 → H2 D = some (.lst ys) → ys.length = n → (∀ (i : Nat) y, ys[i]? = some y → Pr i y H2) → Q (.ref D) H2) :
    tLc (iRng1 ta) (gName j) tYes te vs σ H1 Q := ht _ ⟨(n : Int), rfl, by omega, by omega, fun D hD => by
    rw [Int.toNat_natCast]
    exact lc_range (lo := 0) (n := n) (Itm H1 D Pr) (itm_zero hD) (fun i H hx p => by
      have e : (0 : Int) + (i : Int) = (i : Int) := Int.zero_add _
      show wipe ((wipe σ vs).set j (some (.int ((0 : Int) + (i : Int))))) vs = wipe σ vs ∧ te ((wipe σ vs).set j (some (.int ((0 : Int) + (i : Int))))) H fun y H4 => ∃ acc, H4 D = some (.lst acc) ∧ acc.length < sizeLine ∧ Itm H1 D Pr (i + 1) (upd H4 D (.lst (acc ++ [y])))
      rw [e]
      exact ⟨hw _, itm_turn mono hD (Nat.lt_of_lt_of_le hx hn) (he i hx) p⟩) fun H p => by
        obtain ⟨s, ys, e, l, all⟩ := p
        exact k D H ys hD s e l all⟩
end
/-- over a range, with a test -/
theorem lcRf {n : Nat} {ta : TA} {t : TT} {te : TE} {j : Nat} {vs : List Nat} {σ : L2.St} {H1 : Hp} {Q : VK} (f : Nat → Bool) (v : Nat → V) (ha : ∀ H2, Same H1 H2 → ∀ R : List V → Hp → Prop, R [.int (n : Int)] H2 → ta σ H2 R) (hn : n ≤ 40000)
    (hw : ∀ x, wipe ((wipe σ vs).set j (some x)) vs = wipe σ vs) (ht : ∀ i, i < n → ∀ H2, Same H1 H2 → ∀ R : Bool → Hp → Prop, (∀ H3, Same H2 H3 → R (f i) H3) → t ((wipe σ vs).set j (some (.int (i : Int)))) H2 R)
    (he : ∀ i, i < n → f i = true → ∀ H2, Same H1 H2 → ∀ R : VK, (∀ H3, Same H2 H3 → R (v i) H3) → te ((wipe σ vs).set j (some (.int (i : Int)))) H2 R)
    (k : ∀ D H2, H1 D = none → Same H1 H2 → H2 D = some (.lst (((List.range n).filter f).map v)) → Q (.ref D) H2) : tLc (iRng1 ta) (gName j) t te vs σ H1 Q := by
  have g := Evl.el_lcR1 (ta := ta) (t := t) (te := te) (σ := σ) (H := H1) (j := j) (vs := vs) (n := (n : Int)) f v (fun H2 e R q => ha H2 e R (q H2 (Evl.Ex.refl H2))) ⟨by omega, by omega⟩ hw
    (fun i H2 e hi H3 e2 R q => ht i (by omega) H3 (Same.trans e e2) R q) (fun i H2 e hi hf H3 e2 R q => he i (by omega) hf H3 (Same.trans e e2) R q)
  refine g H1 (Evl.Ex.refl H1) Q fun p H2 hp e hl => k p H2 hp e ?_
  rw [Int.toNat_natCast] at hl
  exact hl
section
variable {te : TE} {σ : L2.St} {H : Hp} {Q : VK} {D : Ends} {t u : TS} {r : List V → Hp → VK → Prop}
theorem cb1 (h : te σ H fun x H1 => r [x] H1 Q) : tCB r (tCons te tNil) σ H Q := h
theorem rt1 (h : te σ H D.rt) : tRet te D σ H := h
theorem as1 {i : Nat} (h : te σ H fun x H1 => D.nx (σ.set i (some x)) H1) : tAsg te (gName i) D σ H := h
theorem nx1 (h : D.nx σ H) : tNext D σ H := h
theorem and1 {tb : TE} (h : te σ H fun x H1 => ∃ c, x = .bl c ∧ if c = true then tb σ H1 Q else Q (.bl false) H1) : tAndV te tb σ H Q := h
theorem sq1 (h : t { D with nx := u D } σ H) : tSeq t u D σ H := h
end
/-- a list whose items are all one -/
theorem all_same {ys : List V} {v : V} {n : Nat} (l : ys.length = n) (h : ∀ (i : Nat) y, ys[i]? = some y → y = v) : ys = List.replicate n v := by
  rw [← l]
  exact List.eq_replicate_of_mem fun y hy => by
    obtain ⟨i, hi, e⟩ := List.mem_iff_getElem.mp hy
    exact h i y (by rw [List.getElem?_eq_getElem hi, e])
end G7
end

section
set_option Elab.async false
set_option linter.all false
set_option maxRecDepth 100000
set_option maxHeartbeats 4000000
namespace G7
open PySem PySem.Spec PyProof.Rows L2
theorem ints_are : ∀ {ns : List Int} {us : List Value}, Vals (ns.map V.int) us → IntsAre us ns
  | [], _, r => by
    cases r
    exact .nil
  | n :: ns, _, r => by
    cases r with
    | cons r1 r2 =>
      obtain ⟨t, rfl⟩ := r1
      exact .cons n t (ints_are r2)
section
variable {X : Cx}
/-- t.index(n), t a tuple of ints -/
def rTupIx (K : PySem.W.Frag) : V → List V → Hp → VK → Prop := fun x xs H Q => ∃ (p : Addr) (ns : List Int) (k : Int), x = .ref p ∧ xs = [.int k] ∧ SqT K H p (ns.map V.int) ∧ k ∈ ns ∧ Q (.int (ns.idxOf k : Nat)) H
theorem mt_tupix : MtR X "tuple.index" (rTupIx X.K) := by
  intro pins z σ G x xs v us Q I rx rxs asked
  obtain ⟨p, ns, k, rfl, rfl, hS, hk, q⟩ := asked
  cases rx
  obtain ⟨u, rfl, t, rfl⟩ := vals1 rxs
  obtain ⟨its, rv, pl, _⟩ := I.tuple hS
  exact PySem.SeqAt.tuple_index_ints pl (ints_are rv) hk ⟨.int (ns.idxOf k : Nat), G, I.tok _, ⟨_, rfl⟩, q⟩
end
end G7
end

section
set_option Elab.async false
set_option linter.all false
set_option maxRecDepth 100000
set_option maxHeartbeats 4000000

namespace G7
open PySem PySem.Spec PyProof.Rows L2
def fdOf (K : PySem.W.Frag) (a : Addr) : FuncData := match K.lookup a with
  | some ⟨_, _, .func fd, _⟩ => fd
  | _ => PySem.W.fnOf "" "" (defArgs (.Pass ⟨0, 0, 0, 0⟩)) [] (defScope (.Pass ⟨0, 0, 0, 0⟩)) .none .none .none .none none .none .none
abbrev fA (K : PySem.W.Frag) (x : Str) : Addr := He.ga K x
abbrev fD (K : PySem.W.Frag) (x : Str) : FuncData := fdOf K (fA K x)
/-- the text's facts -/
def Tp (K : PySem.W.Frag) (mg : Str → Option Value) : Prop := ∃ h : Heap, K.In h ∧ h.Ns mainGlobals mg ∧ Fc tbl K
section
variable {K : PySem.W.Frag} {mg : Str → Option Value}
theorem Tp.df (T : Tp K mg) {x : Str} {st : Stmt} (m : (x, Want.fn st) ∈ tbl) : Df K mg x st (fA K x) (fD K x) := by
  obtain ⟨h, X, G, c⟩ := T
  obtain ⟨v, e, a, fd, rfl, F⟩ := c.at_ tbl_nd m
  have ea : fA K x = a := by
    show (match PySem.W.nsIn K mainGlobals x with
      | some (some (.ref a)) => a
      | _ => 0) = a
    rw [e]
  have ed : fD K x = fd := by
    obtain ⟨oc, od, dV, kV, doc, pm, an, cdv, ct, osl, rfl, look, -, -, -⟩ := F.ex
    show fdOf K (fA K x) = _
    rw [ea]
    unfold fdOf
    rw [look]
  rw [ea, ed]
  exact ⟨F, PySem.W.mg_of X G e⟩
theorem Tp.fr (T : Tp K mg) {x : Str} (m : x ∉ tbl.map (·.1)) : mg x = none := by
  obtain ⟨h, X, G, c⟩ := T
  exact c.fr X G m
theorem Tp.tp (T : Tp K mg) {x : Str} {vs : List V} (m : (x, Want.tup vs) ∈ tbl) : mg x = some (.ref (fA K x)) ∧ (∀ H, SqT K H (fA K x) vs) ∧ ∃ o, K.lookup (fA K x) = some o ∧ o.cls = .type "tuple" ∧ o.dict = none := by
  obtain ⟨h, X, G, c⟩ := T
  obtain ⟨v, e, a, rfl, s⟩ := c.at_ tbl_nd m
  have ea : fA K x = a := by
    show (match PySem.W.nsIn K mainGlobals x with
      | some (some (.ref a)) => a
      | _ => 0) = a
    rw [e]
  rw [ea]
  exact ⟨PySem.W.mg_of X G e, s⟩
theorem Tp.d_is_whole (T : Tp K mg) : Df K mg "is_whole" s_is_whole (fA K "is_whole") (fD K "is_whole") := T.df (List.mem_of_getElem? (i := 17) rfl)
theorem Tp.b_is_whole (T : Tp K mg) : Binds K (fD K "is_whole") ["value"] [] := FunD.bindsN T.d_is_whole.F fun _ _ _ _ _ _ us hl => match us, hl with | [_], _ => rfl
theorem Tp.d_is_between (T : Tp K mg) : Df K mg "is_between" s_is_between (fA K "is_between") (fD K "is_between") := T.df (List.mem_of_getElem? (i := 18) rfl)
theorem Tp.b_is_between (T : Tp K mg) : Binds K (fD K "is_between") ["value", "low", "high"] [] := FunD.bindsN T.d_is_between.F fun _ _ _ _ _ _ us hl => match us, hl with | [_, _, _], _ => rfl
theorem Tp.d_are_wholes (T : Tp K mg) : Df K mg "are_wholes" s_are_wholes (fA K "are_wholes") (fD K "are_wholes") := T.df (List.mem_of_getElem? (i := 19) rfl)
theorem Tp.b_are_wholes (T : Tp K mg) : Binds K (fD K "are_wholes") ["value", "many"] [] := FunD.bindsN T.d_are_wholes.F fun _ _ _ _ _ _ us hl => match us, hl with | [_, _], _ => rfl
theorem Tp.d_divisor_of (T : Tp K mg) : Df K mg "divisor_of" s_divisor_of (fA K "divisor_of") (fD K "divisor_of") := T.df (List.mem_of_getElem? (i := 20) rfl)
theorem Tp.b_divisor_of (T : Tp K mg) : Binds K (fD K "divisor_of") ["numbers"] [] := FunD.bindsN T.d_divisor_of.F fun _ _ _ _ _ _ us hl => match us, hl with | [_], _ => rfl
theorem Tp.d_lowest (T : Tp K mg) : Df K mg "lowest" s_lowest (fA K "lowest") (fD K "lowest") := T.df (List.mem_of_getElem? (i := 21) rfl)
theorem Tp.b_lowest (T : Tp K mg) : Binds K (fD K "lowest") ["numbers"] [] := FunD.bindsN T.d_lowest.F fun _ _ _ _ _ _ us hl => match us, hl with | [_], _ => rfl
theorem Tp.d_bits_in (T : Tp K mg) : Df K mg "bits_in" s_bits_in (fA K "bits_in") (fD K "bits_in") := T.df (List.mem_of_getElem? (i := 23) rfl)
theorem Tp.b_bits_in (T : Tp K mg) : Binds K (fD K "bits_in") ["number"] [] := FunD.bindsN T.d_bits_in.F fun _ _ _ _ _ _ us hl => match us, hl with | [_], _ => rfl
theorem Tp.d_is_ratio (T : Tp K mg) : Df K mg "is_ratio" s_is_ratio (fA K "is_ratio") (fD K "is_ratio") := T.df (List.mem_of_getElem? (i := 26) rfl)
theorem Tp.b_is_ratio (T : Tp K mg) : Binds K (fD K "is_ratio") ["value"] [] := FunD.bindsN T.d_is_ratio.F fun _ _ _ _ _ _ us hl => match us, hl with | [_], _ => rfl
theorem Tp.d_ratio (T : Tp K mg) : Df K mg "ratio" s_ratio (fA K "ratio") (fD K "ratio") := T.df (List.mem_of_getElem? (i := 27) rfl)
theorem Tp.b_ratio (T : Tp K mg) : Binds K (fD K "ratio") ["top", "low"] [] := FunD.bindsN T.d_ratio.F fun _ _ _ _ _ _ us hl => match us, hl with | [_, _], _ => rfl
theorem Tp.d_plus (T : Tp K mg) : Df K mg "plus" s_plus (fA K "plus") (fD K "plus") := T.df (List.mem_of_getElem? (i := 28) rfl)
theorem Tp.b_plus (T : Tp K mg) : Binds K (fD K "plus") ["one", "two"] [] := FunD.bindsN T.d_plus.F fun _ _ _ _ _ _ us hl => match us, hl with | [_, _], _ => rfl
theorem Tp.d_times (T : Tp K mg) : Df K mg "times" s_times (fA K "times") (fD K "times") := T.df (List.mem_of_getElem? (i := 30) rfl)
theorem Tp.b_times (T : Tp K mg) : Binds K (fD K "times") ["one", "two"] [] := FunD.bindsN T.d_times.F fun _ _ _ _ _ _ us hl => match us, hl with | [_, _], _ => rfl
theorem Tp.d_power (T : Tp K mg) : Df K mg "power" s_power (fA K "power") (fD K "power") := T.df (List.mem_of_getElem? (i := 32) rfl)
theorem Tp.b_power (T : Tp K mg) : Binds K (fD K "power") ["one", "many"] [] := FunD.bindsN T.d_power.F fun _ _ _ _ _ _ us hl => match us, hl with | [_, _], _ => rfl
theorem Tp.d_is_below (T : Tp K mg) : Df K mg "is_below" s_is_below (fA K "is_below") (fD K "is_below") := T.df (List.mem_of_getElem? (i := 34) rfl)
theorem Tp.b_is_below (T : Tp K mg) : Binds K (fD K "is_below") ["one", "two"] [] := FunD.bindsN T.d_is_below.F fun _ _ _ _ _ _ us hl => match us, hl with | [_, _], _ => rfl
theorem Tp.d_is_amount (T : Tp K mg) : Df K mg "is_amount" s_is_amount (fA K "is_amount") (fD K "is_amount") := T.df (List.mem_of_getElem? (i := 61) rfl)
theorem Tp.b_is_amount (T : Tp K mg) : Binds K (fD K "is_amount") ["value"] [] := FunD.bindsN T.d_is_amount.F fun _ _ _ _ _ _ us hl => match us, hl with | [_], _ => rfl
theorem Tp.d_is_carrier (T : Tp K mg) : Df K mg "is_carrier" s_is_carrier (fA K "is_carrier") (fD K "is_carrier") := T.df (List.mem_of_getElem? (i := 62) rfl)
theorem Tp.b_is_carrier (T : Tp K mg) : Binds K (fD K "is_carrier") ["value"] [] := FunD.bindsN T.d_is_carrier.F fun _ _ _ _ _ _ us hl => match us, hl with | [_], _ => rfl
theorem Tp.d_check_carrier (T : Tp K mg) : Df K mg "check_carrier" s_check_carrier (fA K "check_carrier") (fD K "check_carrier") := T.df (List.mem_of_getElem? (i := 63) rfl)
theorem Tp.b_check_carrier (T : Tp K mg) : Binds K (fD K "check_carrier") ["value"] [] := FunD.bindsN T.d_check_carrier.F fun _ _ _ _ _ _ us hl => match us, hl with | [_], _ => rfl
theorem Tp.d_seat_count (T : Tp K mg) : Df K mg "seat_count" s_seat_count (fA K "seat_count") (fD K "seat_count") := T.df (List.mem_of_getElem? (i := 65) rfl)
theorem Tp.b_seat_count (T : Tp K mg) : Binds K (fD K "seat_count") ["carrier"] [] := FunD.bindsN T.d_seat_count.F fun _ _ _ _ _ _ us hl => match us, hl with | [_], _ => rfl
theorem Tp.d_counts_in (T : Tp K mg) : Df K mg "counts_in" s_counts_in (fA K "counts_in") (fD K "counts_in") := T.df (List.mem_of_getElem? (i := 68) rfl)
theorem Tp.b_counts_in (T : Tp K mg) : Binds K (fD K "counts_in") ["carrier", "standings"] [] := FunD.bindsN T.d_counts_in.F fun _ _ _ _ _ _ us hl => match us, hl with | [_, _], _ => rfl
theorem Tp.d_counts_by (T : Tp K mg) : Df K mg "counts_by" s_counts_by (fA K "counts_by") (fD K "counts_by") := T.df (List.mem_of_getElem? (i := 69) rfl)
theorem Tp.b_counts_by (T : Tp K mg) : Binds K (fD K "counts_by") ["carrier"] [] := FunD.bindsN T.d_counts_by.F fun _ _ _ _ _ _ us hl => match us, hl with | [_], _ => rfl
theorem Tp.d_bars (T : Tp K mg) : Df K mg "bars" s_bars (fA K "bars") (fD K "bars") := T.df (List.mem_of_getElem? (i := 74) rfl)
theorem Tp.b_bars (T : Tp K mg) : Binds K (fD K "bars") ["row", "number", "low", "high"] [] := FunD.bindsN T.d_bars.F fun _ _ _ _ _ _ us hl => match us, hl with | [_, _, _, _], _ => rfl
theorem Tp.d_barring (T : Tp K mg) : Df K mg "barring" s_barring (fA K "barring") (fD K "barring") := T.df (List.mem_of_getElem? (i := 75) rfl)
theorem Tp.b_barring (T : Tp K mg) : Binds K (fD K "barring") ["row", "number"] [] := FunD.bindsN T.d_barring.F fun _ _ _ _ _ _ us hl => match us, hl with | [_, _], _ => rfl
theorem Tp.d_ever_likeliest (T : Tp K mg) : Df K mg "ever_likeliest" s_ever_likeliest (fA K "ever_likeliest") (fD K "ever_likeliest") := T.df (List.mem_of_getElem? (i := 76) rfl)
theorem Tp.b_ever_likeliest (T : Tp K mg) : Binds K (fD K "ever_likeliest") ["carrier"] [] := FunD.bindsN T.d_ever_likeliest.F fun _ _ _ _ _ _ us hl => match us, hl with | [_], _ => rfl
theorem Tp.d_barring_pair (T : Tp K mg) : Df K mg "barring_pair" s_barring_pair (fA K "barring_pair") (fD K "barring_pair") := T.df (List.mem_of_getElem? (i := 77) rfl)
theorem Tp.b_barring_pair (T : Tp K mg) : Binds K (fD K "barring_pair") ["carrier", "number"] [] := FunD.bindsN T.d_barring_pair.F fun _ _ _ _ _ _ us hl => match us, hl with | [_, _], _ => rfl
theorem Tp.d_certify_likeliest (T : Tp K mg) : Df K mg "certify_likeliest" s_certify_likeliest (fA K "certify_likeliest") (fD K "certify_likeliest") := T.df (List.mem_of_getElem? (i := 132) rfl)
theorem Tp.b_certify_likeliest (T : Tp K mg) : Binds K (fD K "certify_likeliest") ["carrier", "number"] [] := FunD.bindsN T.d_certify_likeliest.F fun _ _ _ _ _ _ us hl => match us, hl with | [_, _], _ => rfl
theorem Tp.d_shows_likeliest (T : Tp K mg) : Df K mg "shows_likeliest" s_shows_likeliest (fA K "shows_likeliest") (fD K "shows_likeliest") := T.df (List.mem_of_getElem? (i := 134) rfl)
theorem Tp.b_shows_likeliest (T : Tp K mg) : Binds K (fD K "shows_likeliest") ["claim", "paper"] [] := FunD.bindsN T.d_shows_likeliest.F fun _ _ _ _ _ _ us hl => match us, hl with | [_, _], _ => rfl
theorem Tp.d_is_of_one (T : Tp K mg) : Df K mg "is_of_one" s_is_of_one (fA K "is_of_one") (fD K "is_of_one") := T.df (List.mem_of_getElem? (i := 150) rfl)
theorem Tp.b_is_of_one (T : Tp K mg) : Binds K (fD K "is_of_one") ["claim"] [] := FunD.bindsN T.d_is_of_one.F fun _ _ _ _ _ _ us hl => match us, hl with | [_], _ => rfl
theorem Tp.d_is_claim (T : Tp K mg) : Df K mg "is_claim" s_is_claim (fA K "is_claim") (fD K "is_claim") := T.df (List.mem_of_getElem? (i := 153) rfl)
theorem Tp.b_is_claim (T : Tp K mg) : Binds K (fD K "is_claim") ["claim"] [] := FunD.bindsN T.d_is_claim.F fun _ _ _ _ _ _ us hl => match us, hl with | [_], _ => rfl
theorem Tp.d_shows_of_carriers (T : Tp K mg) : Df K mg "shows_of_carriers" s_shows_of_carriers (fA K "shows_of_carriers") (fD K "shows_of_carriers") := T.df (List.mem_of_getElem? (i := 154) rfl)
theorem Tp.b_shows_of_carriers (T : Tp K mg) : Binds K (fD K "shows_of_carriers") ["claim", "paper"] [] := FunD.bindsN T.d_shows_of_carriers.F fun _ _ _ _ _ _ us hl => match us, hl with | [_, _], _ => rfl
theorem Tp.d_accepts (T : Tp K mg) : Df K mg "accepts" s_accepts (fA K "accepts") (fD K "accepts") := T.df (List.mem_of_getElem? (i := 156) rfl)
theorem Tp.b_accepts (T : Tp K mg) : Binds K (fD K "accepts") ["claim", "paper"] [] := FunD.bindsN T.d_accepts.F fun _ _ _ _ _ _ us hl => match us, hl with | [_, _], _ => rfl
theorem Tp.d_law_vat (T : Tp K mg) : Df K mg "_law_vat" s_law_vat (fA K "_law_vat") (fD K "_law_vat") := T.df (List.mem_of_getElem? (i := 157) rfl)
theorem Tp.b_law_vat (T : Tp K mg) : Binds K (fD K "_law_vat") ["_law_script", "_law_lap"] [] := FunD.bindsN T.d_law_vat.F fun _ _ _ _ _ _ us hl => match us, hl with | [_, _], _ => rfl
theorem Tp.d_law_sip (T : Tp K mg) : Df K mg "_law_sip" s_law_sip (fA K "_law_sip") (fD K "_law_sip") := T.df (List.mem_of_getElem? (i := 158) rfl)
theorem Tp.b_law_sip (T : Tp K mg) : Binds K (fD K "_law_sip") ["_law_vat_here", "_law_size"] [] := FunD.bindsN T.d_law_sip.F fun _ _ _ _ _ _ us hl => match us, hl with | [_, _], _ => rfl
theorem Tp.d_law_of (T : Tp K mg) : Df K mg "_law_of" s_law_of (fA K "_law_of") (fD K "_law_of") := T.df (List.mem_of_getElem? (i := 159) rfl)
theorem Tp.b_law_of (T : Tp K mg) : Binds K (fD K "_law_of") ["_law_vat_here", "_law_some_here"] [] := FunD.bindsN T.d_law_of.F fun _ _ _ _ _ _ us hl => match us, hl with | [_, _], _ => rfl
theorem Tp.d_law_common (T : Tp K mg) : Df K mg "_law_common" s_law_common (fA K "_law_common") (fD K "_law_common") := T.df (List.mem_of_getElem? (i := 160) rfl)
theorem Tp.b_law_common (T : Tp K mg) : Binds K (fD K "_law_common") ["_law_one", "_law_two"] [] := FunD.bindsN T.d_law_common.F fun _ _ _ _ _ _ us hl => match us, hl with | [_, _], _ => rfl
theorem Tp.d_law_low (T : Tp K mg) : Df K mg "_law_low" s_law_low (fA K "_law_low") (fD K "_law_low") := T.df (List.mem_of_getElem? (i := 161) rfl)
theorem Tp.b_law_low (T : Tp K mg) : Binds K (fD K "_law_low") ["_law_top", "_law_under_here"] [] := FunD.bindsN T.d_law_low.F fun _ _ _ _ _ _ us hl => match us, hl with | [_, _], _ => rfl
theorem Tp.d_law_add (T : Tp K mg) : Df K mg "_law_add" s_law_add (fA K "_law_add") (fD K "_law_add") := T.df (List.mem_of_getElem? (i := 162) rfl)
theorem Tp.b_law_add (T : Tp K mg) : Binds K (fD K "_law_add") ["_law_one", "_law_two"] [] := FunD.bindsN T.d_law_add.F fun _ _ _ _ _ _ us hl => match us, hl with | [_, _], _ => rfl
theorem Tp.d_law_mul (T : Tp K mg) : Df K mg "_law_mul" s_law_mul (fA K "_law_mul") (fD K "_law_mul") := T.df (List.mem_of_getElem? (i := 163) rfl)
theorem Tp.b_law_mul (T : Tp K mg) : Binds K (fD K "_law_mul") ["_law_one", "_law_two"] [] := FunD.bindsN T.d_law_mul.F fun _ _ _ _ _ _ us hl => match us, hl with | [_, _], _ => rfl
theorem Tp.d_law_under (T : Tp K mg) : Df K mg "_law_under" s_law_under (fA K "_law_under") (fD K "_law_under") := T.df (List.mem_of_getElem? (i := 164) rfl)
theorem Tp.b_law_under (T : Tp K mg) : Binds K (fD K "_law_under") ["_law_one", "_law_two"] [] := FunD.bindsN T.d_law_under.F fun _ _ _ _ _ _ us hl => match us, hl with | [_, _], _ => rfl
theorem Tp.d_law_power (T : Tp K mg) : Df K mg "_law_power" s_law_power (fA K "_law_power") (fD K "_law_power") := T.df (List.mem_of_getElem? (i := 165) rfl)
theorem Tp.b_law_power (T : Tp K mg) : Binds K (fD K "_law_power") ["_law_base", "_law_many_here"] [] := FunD.bindsN T.d_law_power.F fun _ _ _ _ _ _ us hl => match us, hl with | [_, _], _ => rfl
theorem Tp.d_law_some (T : Tp K mg) : Df K mg "_law_some" s_law_some (fA K "_law_some") (fD K "_law_some") := T.df (List.mem_of_getElem? (i := 166) rfl)
theorem Tp.b_law_some (T : Tp K mg) : Binds K (fD K "_law_some") ["_law_vat_here", "_law_wide"] [] := FunD.bindsN T.d_law_some.F fun _ _ _ _ _ _ us hl => match us, hl with | [_, _], _ => rfl
theorem Tp.d_law_many (T : Tp K mg) : Df K mg "_law_many" s_law_many (fA K "_law_many") (fD K "_law_many") := T.df (List.mem_of_getElem? (i := 167) rfl)
theorem Tp.b_law_many (T : Tp K mg) : Binds K (fD K "_law_many") ["_law_standing"] [] := FunD.bindsN T.d_law_many.F fun _ _ _ _ _ _ us hl => match us, hl with | [_], _ => rfl
theorem Tp.d_law_has (T : Tp K mg) : Df K mg "_law_has" s_law_has (fA K "_law_has") (fD K "_law_has") := T.df (List.mem_of_getElem? (i := 168) rfl)
theorem Tp.b_law_has (T : Tp K mg) : Binds K (fD K "_law_has") ["_law_standing", "_law_seat"] [] := FunD.bindsN T.d_law_has.F fun _ _ _ _ _ _ us hl => match us, hl with | [_, _], _ => rfl
theorem Tp.d_law_count_seats (T : Tp K mg) : Df K mg "_law_count_seats" s_law_count_seats (fA K "_law_count_seats") (fD K "_law_count_seats") := T.df (List.mem_of_getElem? (i := 169) rfl)
theorem Tp.b_law_count_seats (T : Tp K mg) : Binds K (fD K "_law_count_seats") ["_law_weights"] [] := FunD.bindsN T.d_law_count_seats.F fun _ _ _ _ _ _ us hl => match us, hl with | [_], _ => rfl
theorem Tp.d_law_product (T : Tp K mg) : Df K mg "_law_product" s_law_product (fA K "_law_product") (fD K "_law_product") := T.df (List.mem_of_getElem? (i := 170) rfl)
theorem Tp.b_law_product (T : Tp K mg) : Binds K (fD K "_law_product") ["_law_factors", "_law_standing"] [] := FunD.bindsN T.d_law_product.F fun _ _ _ _ _ _ us hl => match us, hl with | [_, _], _ => rfl
theorem Tp.d_law_free (T : Tp K mg) : Df K mg "_law_free" s_law_free (fA K "_law_free") (fD K "_law_free") := T.df (List.mem_of_getElem? (i := 171) rfl)
theorem Tp.b_law_free (T : Tp K mg) : Binds K (fD K "_law_free") ["_law_factors"] [] := FunD.bindsN T.d_law_free.F fun _ _ _ _ _ _ us hl => match us, hl with | [_], _ => rfl
theorem Tp.d_law_knot (T : Tp K mg) : Df K mg "_law_knot" s_law_knot (fA K "_law_knot") (fD K "_law_knot") := T.df (List.mem_of_getElem? (i := 172) rfl)
theorem Tp.b_law_knot (T : Tp K mg) : Binds K (fD K "_law_knot") ["_law_weights", "_law_one", "_law_two", "_law_by"] [] := FunD.bindsN T.d_law_knot.F fun _ _ _ _ _ _ us hl => match us, hl with | [_, _, _, _], _ => rfl
theorem Tp.d_law_knots (T : Tp K mg) : Df K mg "_law_knots" s_law_knots (fA K "_law_knots") (fD K "_law_knots") := T.df (List.mem_of_getElem? (i := 173) rfl)
theorem Tp.b_law_knots (T : Tp K mg) : Binds K (fD K "_law_knots") ["_law_vat_here", "_law_weights", "_law_some_here"] [] := FunD.bindsN T.d_law_knots.F fun _ _ _ _ _ _ us hl => match us, hl with | [_, _, _], _ => rfl
theorem Tp.d_law_bench (T : Tp K mg) : Df K mg "_law_bench" s_law_bench (fA K "_law_bench") (fD K "_law_bench") := T.df (List.mem_of_getElem? (i := 174) rfl)
theorem Tp.b_law_bench (T : Tp K mg) : Binds K (fD K "_law_bench") ["_law_vat_here", "_law_seats"] [] := FunD.bindsN T.d_law_bench.F fun _ _ _ _ _ _ us hl => match us, hl with | [_, _], _ => rfl
theorem Tp.d_law_carrier (T : Tp K mg) : Df K mg "_law_carrier" s_law_carrier (fA K "_law_carrier") (fD K "_law_carrier") := T.df (List.mem_of_getElem? (i := 175) rfl)
theorem Tp.b_law_carrier (T : Tp K mg) : Binds K (fD K "_law_carrier") ["_law_vat_here"] [] := FunD.bindsN T.d_law_carrier.F fun _ _ _ _ _ _ us hl => match us, hl with | [_], _ => rfl
theorem Tp.d_law_counts (T : Tp K mg) : Df K mg "_law_counts" s_law_counts (fA K "_law_counts") (fD K "_law_counts") := T.df (List.mem_of_getElem? (i := 176) rfl)
theorem Tp.b_law_counts (T : Tp K mg) : Binds K (fD K "_law_counts") ["_law_weights"] [] := FunD.bindsN T.d_law_counts.F fun _ _ _ _ _ _ us hl => match us, hl with | [_], _ => rfl
theorem Tp.d_law_laps (T : Tp K mg) : Df K mg "_law_laps" s_law_laps (fA K "_law_laps") (fD K "_law_laps") := T.df (List.mem_of_getElem? (i := 177) rfl)
theorem Tp.b_law_laps (T : Tp K mg) : Binds K (fD K "_law_laps") ["_law_script", "_law_most"] [] := FunD.bindsN T.d_law_laps.F fun _ _ _ _ _ _ us hl => match us, hl with | [_, _], _ => rfl
theorem Tp.d_law_bars (T : Tp K mg) : Df K mg "_law_bars" s_law_bars (fA K "_law_bars") (fD K "_law_bars") := T.df (List.mem_of_getElem? (i := 178) rfl)
theorem Tp.b_law_bars (T : Tp K mg) : Binds K (fD K "_law_bars") ["_law_counts_here", "_law_low_here", "_law_number", "_law_high"] [] := FunD.bindsN T.d_law_bars.F fun _ _ _ _ _ _ us hl => match us, hl with | [_, _, _, _], _ => rfl
theorem Tp.d_law_raised (T : Tp K mg) : Df K mg "_law_raised" s_law_raised (fA K "_law_raised") (fD K "_law_raised") := T.df (List.mem_of_getElem? (i := 179) rfl)
theorem Tp.b_law_raised (T : Tp K mg) : Binds K (fD K "_law_raised") ["_law_some_here", "_law_many_here"] [] := FunD.bindsN T.d_law_raised.F fun _ _ _ _ _ _ us hl => match us, hl with | [_, _], _ => rfl
theorem Tp.d_law_barring (T : Tp K mg) : Df K mg "_law_barring" s_law_barring (fA K "_law_barring") (fD K "_law_barring") := T.df (List.mem_of_getElem? (i := 180) rfl)
theorem Tp.b_law_barring (T : Tp K mg) : Binds K (fD K "_law_barring") ["_law_counts_here", "_law_number"] [] := FunD.bindsN T.d_law_barring.F fun _ _ _ _ _ _ us hl => match us, hl with | [_, _], _ => rfl
theorem Tp.d_law_claimed_right (T : Tp K mg) : Df K mg "_law_claimed_right" s_law_claimed_right (fA K "_law_claimed_right") (fD K "_law_claimed_right") := T.df (List.mem_of_getElem? (i := 181) rfl)
theorem Tp.b_law_claimed_right (T : Tp K mg) : Binds K (fD K "_law_claimed_right") ["_law_vat_here", "_law_weights", "_law_counts_here", "_law_number"] [] := FunD.bindsN T.d_law_claimed_right.F fun _ _ _ _ _ _ us hl => match us, hl with | [_, _, _, _], _ => rfl
theorem Tp.d_law_right (T : Tp K mg) : Df K mg "_law_right" s_law_right (fA K "_law_right") (fD K "_law_right") := T.df (List.mem_of_getElem? (i := 182) rfl)
theorem Tp.b_law_right (T : Tp K mg) : Binds K (fD K "_law_right") ["_law_vat_here"] [] := FunD.bindsN T.d_law_right.F fun _ _ _ _ _ _ us hl => match us, hl with | [_], _ => rfl
theorem Tp.d_law (T : Tp K mg) : Df K mg "law" s_law (fA K "law") (fD K "law") := T.df (List.mem_of_getElem? (i := 183) rfl)
theorem Tp.b_law (T : Tp K mg) : Binds K (fD K "law") ["_law_script"] [] := FunD.bindsN T.d_law.F fun _ _ _ _ _ _ us hl => match us, hl with | [_], _ => rfl
theorem Tp.z_isinstance (T : Tp K mg) : mg "isinstance" = none := T.fr (by decide +kernel)
theorem Tp.z_int (T : Tp K mg) : mg "int" = none := T.fr (by decide +kernel)
theorem Tp.z_bool (T : Tp K mg) : mg "bool" = none := T.fr (by decide +kernel)
theorem Tp.z_tuple (T : Tp K mg) : mg "tuple" = none := T.fr (by decide +kernel)
theorem Tp.z_len (T : Tp K mg) : mg "len" = none := T.fr (by decide +kernel)
theorem Tp.z_all (T : Tp K mg) : mg "all" = none := T.fr (by decide +kernel)
theorem Tp.z_range (T : Tp K mg) : mg "range" = none := T.fr (by decide +kernel)
theorem Tp.z_list (T : Tp K mg) : mg "list" = none := T.fr (by decide +kernel)
theorem Tp.z_abs (T : Tp K mg) : mg "abs" = none := T.fr (by decide +kernel)
theorem Tp.z_divmod (T : Tp K mg) : mg "divmod" = none := T.fr (by decide +kernel)
theorem Tp.z_max (T : Tp K mg) : mg "max" = none := T.fr (by decide +kernel)
theorem Tp.z_min (T : Tp K mg) : mg "min" = none := T.fr (by decide +kernel)
theorem Tp.z_repr (T : Tp K mg) : mg "repr" = none := T.fr (by decide +kernel)
theorem Tp.z_str (T : Tp K mg) : mg "str" = none := T.fr (by decide +kernel)
theorem Tp.t_ZERO (T : Tp K mg) : mg "ZERO" = some (.ref (fA K "ZERO")) ∧ (∀ H, SqT K H (fA K "ZERO") [.int 0, .int 1]) ∧ ∃ o, K.lookup (fA K "ZERO") = some o ∧ o.cls = .type "tuple" ∧ o.dict = none := T.tp (List.mem_of_getElem? (i := 24) rfl)
theorem Tp.t_ONE (T : Tp K mg) : mg "ONE" = some (.ref (fA K "ONE")) ∧ (∀ H, SqT K H (fA K "ONE") [.int 1, .int 1]) ∧ ∃ o, K.lookup (fA K "ONE") = some o ∧ o.cls = .type "tuple" ∧ o.dict = none := T.tp (List.mem_of_getElem? (i := 25) rfl)
theorem Tp.t_SIZES (T : Tp K mg) : mg "SIZES" = some (.ref (fA K "SIZES")) ∧ (∀ H, SqT K H (fA K "SIZES") [.int 2, .int 4, .int 8, .int 16, .int 32]) ∧ ∃ o, K.lookup (fA K "SIZES") = some o ∧ o.cls = .type "tuple" ∧ o.dict = none := T.tp (List.mem_of_getElem? (i := 60) rfl)
theorem Tp.g_gcd (T : Tp K mg) : mg "gcd" = some (.builtin "math.gcd") := by
  obtain ⟨h, X, G, c⟩ := T
  exact c.bl X G tbl_nd (List.mem_of_getElem? (i := 9) rfl)
end
end G7
end

section
set_option linter.all false
/-! fractions as pairs of naturals: plain mathematics -/
namespace G7
abbrev Q2 : Type := Nat × Nat
def red (t u : Nat) : Q2 := (t / Nat.gcd t u, u / Nat.gcd t u)
def addF (p q : Q2) : Q2 := red (p.1 * q.2 + q.1 * p.2) (p.2 * q.2)
def mulF (p q : Q2) : Q2 := red (p.1 * q.1) (p.2 * q.2)
def powF (p : Q2) (k : Nat) : Q2 := (p.1 ^ k, p.2 ^ k)
def ltF (p q : Q2) : Bool := decide (p.1 * q.2 < q.1 * p.2)
/-- below 2 ^ n, the second one not 0 -/
def Bd (n : Nat) (q : Q2) : Prop := q.1 < 2 ^ n ∧ q.2 < 2 ^ n ∧ 0 < q.2
theorem Bd.mono {m n : Nat} {q : Q2} (h : Bd m q) (l : m ≤ n) : Bd n q :=
  ⟨Nat.lt_of_lt_of_le h.1 (Nat.pow_le_pow_right (by decide) l), Nat.lt_of_lt_of_le h.2.1 (Nat.pow_le_pow_right (by decide) l), h.2.2⟩
theorem gcd_le_right (t : Nat) {u : Nat} (h : 0 < u) : Nat.gcd t u ≤ u := Nat.le_of_dvd h (Nat.gcd_dvd_right t u)
theorem gcd_pos (t : Nat) {u : Nat} (h : 0 < u) : 0 < Nat.gcd t u := Nat.gcd_pos_of_pos_right t h
theorem red_bd {n t u : Nat} (ht : t < 2 ^ n) (hu : u < 2 ^ n) (h0 : 0 < u) : Bd n (red t u) := by
  refine ⟨Nat.lt_of_le_of_lt (Nat.div_le_self _ _) ht, Nat.lt_of_le_of_lt (Nat.div_le_self _ _) hu, ?_⟩
  exact Nat.div_pos (gcd_le_right t h0) (gcd_pos t h0)
theorem mul_lt_pow {a b m n : Nat} (h1 : a < 2 ^ m) (h2 : b < 2 ^ n) : a * b < 2 ^ (m + n) := by
  rw [Nat.pow_add]
  exact Nat.mul_lt_mul'' h1 h2
theorem mulF_bd {m n : Nat} {p q : Q2} (hp : Bd m p) (hq : Bd n q) : Bd (m + n) (mulF p q) :=
  red_bd (mul_lt_pow hp.1 hq.1) (mul_lt_pow hp.2.1 hq.2.1) (Nat.mul_pos hp.2.2 hq.2.2)
theorem addF_bd {m n : Nat} {p q : Q2} (hp : Bd m p) (hq : Bd n q) : Bd (m + n + 1) (addF p q) := by
  have a := mul_lt_pow hp.1 hq.2.1
  have b := mul_lt_pow hp.2.1 hq.1
  rw [Nat.mul_comm p.2 q.1] at b
  have c := mul_lt_pow hp.2.1 hq.2.1
  refine red_bd ?_ ?_ (Nat.mul_pos hp.2.2 hq.2.2)
  · rw [Nat.pow_succ]
    omega
  · rw [Nat.pow_succ]
    omega
theorem pow_bd {a n : Nat} (h : a < 2 ^ n) (hn : 0 < n) : ∀ k, a ^ k < 2 ^ (n * k + 1)
  | 0 => by
    show 1 < 2 ^ (n * 0 + 1)
    rw [Nat.mul_zero]
    decide
  | k + 1 => by
    have h0 : a ≤ 2 ^ n := Nat.le_of_lt h
    have h1 : a ^ (k + 1) ≤ (2 ^ n) ^ (k + 1) := Nat.pow_le_pow_left h0 (k + 1)
    rw [← Nat.pow_mul] at h1
    exact Nat.lt_of_le_of_lt h1 (Nat.pow_lt_pow_right (by decide) (Nat.lt_succ_self _))
/-- a tight bound: at most the power -/
theorem pow_le {a n : Nat} (h : a ≤ 2 ^ n) (k : Nat) : a ^ k ≤ 2 ^ (n * k) := by
  rw [Nat.pow_mul]
  exact Nat.pow_le_pow_left h k
theorem powF_bd {n : Nat} {p : Q2} (h : Bd n p) (hn : 0 < n) (k : Nat) : Bd (n * k + 1) (powF p k) :=
  ⟨pow_bd h.1 hn k, pow_bd h.2.1 hn k, Nat.pow_pos h.2.2⟩
theorem powF_succ (p : Q2) (k : Nat) : powF p (k + 1) = ((powF p k).1 * p.1, (powF p k).2 * p.2) := rfl
theorem red_coprime {t u : Nat} (h : 0 < u) : Nat.gcd (red t u).1 (red t u).2 = 1 := Nat.gcd_div_gcd_div_gcd_of_pos_right h
/-- a weight: reduced, above 0, not too great -/
structure Wt (q : Q2) : Prop where
  pos : 0 < q.1
  bd : Bd 110 q
  co : Nat.gcd q.1 q.2 = 1
theorem red_pos {t u : Nat} (h : 0 < t) : 0 < (red t u).1 := Nat.div_pos (Nat.le_of_dvd h (Nat.gcd_dvd_left t u)) (Nat.gcd_pos_of_pos_left u h)
/-- how many bits are 1, below 64 -/
def bitsN (n : Nat) : Nat := n % 2 + n / 2 % 2 + n / 4 % 2 + n / 8 % 2 + n / 16 % 2 + n / 32 % 2
theorem bitsN_zero : bitsN 0 = 0 := rfl
theorem bitsN_half {n : Nat} (h : n < 64) : bitsN n = n % 2 + bitsN (n / 2) := by
  unfold bitsN
  omega
theorem bitsN_le : ∀ n, n < 6 → 0 < n → ∀ s, s < 2 ^ n → bitsN s ≤ n := by decide +kernel
/-- the bits of the first places -/
def bitsUp (n : Nat) : Nat → Nat
  | 0 => 0
  | s + 1 => bitsUp n s + n / 2 ^ s % 2
theorem bitsUp_six (n : Nat) : bitsUp n 6 = bitsN n := by
  show 0 + n / 2 ^ 0 % 2 + n / 2 ^ 1 % 2 + n / 2 ^ 2 % 2 + n / 2 ^ 3 % 2 + n / 2 ^ 4 % 2 + n / 2 ^ 5 % 2 = bitsN n
  unfold bitsN
  rw [show 2 ^ 0 = 1 from rfl, show 2 ^ 1 = 2 from rfl, show 2 ^ 2 = 4 from rfl, show 2 ^ 3 = 8 from rfl, show 2 ^ 4 = 16 from rfl, show 2 ^ 5 = 32 from rfl, Nat.div_one, Nat.zero_add]
/-! ### counts -/
def cstep (W : List Q2) (acc : List Q2) (i : Nat) : List Q2 := acc.set (bitsN i) (addF (acc.getD (bitsN i) (0, 1)) (W.getD i (0, 1)))
def accW (W : List Q2) (n i : Nat) : List Q2 := (List.range i).foldl (cstep W) (List.replicate (n + 1) (0, 1))
def counts (n : Nat) (W : List Q2) : List Q2 := accW W n (2 ^ n)
theorem accW_zero (W : List Q2) (n : Nat) : accW W n 0 = List.replicate (n + 1) (0, 1) := rfl
theorem accW_succ (W : List Q2) (n i : Nat) : accW W n (i + 1) = cstep W (accW W n i) i := by
  unfold accW
  rw [List.range_succ, List.foldl_append]
  rfl
theorem accW_len (W : List Q2) (n : Nat) : ∀ i, (accW W n i).length = n + 1
  | 0 => by rw [accW_zero, List.length_replicate]
  | i + 1 => by
    rw [accW_succ]
    unfold cstep
    rw [List.length_set, accW_len W n i]
def cnt (i k : Nat) : Nat := ((List.range i).filter fun j => bitsN j == k).length
theorem cnt_succ (i k : Nat) : cnt (i + 1) k = cnt i k + if bitsN i = k then 1 else 0 := by
  unfold cnt
  rw [List.range_succ, List.filter_append, List.length_append]
  by_cases h : bitsN i = k
  · rw [if_pos h, List.filter_cons, if_pos (beq_iff_eq.mpr h)]
    rfl
  · rw [if_neg h, List.filter_cons, if_neg (fun e => h (beq_iff_eq.mp e))]
    rfl
theorem cnt_le : ∀ k, k < 6 → ∀ i, i < 33 → cnt i k ≤ 10 := by decide +kernel
theorem getD_set_self {l : List Q2} {k : Nat} {x d : Q2} (h : k < l.length) : (l.set k x).getD k d = x := by
  rw [List.getD_eq_getElem?_getD, List.getElem?_set_self h]
  rfl
theorem getD_set_ne {l : List Q2} {k j : Nat} {x d : Q2} (h : k ≠ j) : (l.set k x).getD j d = l.getD j d := by
  rw [List.getD_eq_getElem?_getD, List.getElem?_set_ne h, List.getD_eq_getElem?_getD]
/-- a carrier's weights -/
structure Car (n : Nat) (W : List Q2) : Prop where
  lo : 1 ≤ n
  hi : n ≤ 5
  len : W.length = 2 ^ n
  one : W[0]? = some (1, 1)
  wt : ∀ q ∈ W, Wt q
theorem Car.len32 {n : Nat} {W : List Q2} (c : Car n W) : W.length ≤ 32 := by
  rw [c.len]
  exact Nat.pow_le_pow_right (n := 2) (by decide) c.hi
theorem Car.at_ {n i : Nat} {W : List Q2} (c : Car n W) (h : i < W.length) : Wt (W.getD i (0, 1)) := by
  rw [List.getD_eq_getElem?_getD, List.getElem?_eq_getElem h]
  exact c.wt _ (List.getElem_mem h)
theorem accW_bd {n : Nat} {W : List Q2} (c : Car n W) : ∀ i, i ≤ 2 ^ n → ∀ k, k ≤ n → Bd (1 + 111 * cnt i k) ((accW W n i).getD k (0, 1))
  | 0, _, k, hk => by
    rw [accW_zero]
    have e : (List.replicate (n + 1) ((0, 1) : Q2)).getD k (0, 1) = (0, 1) := by
      rw [List.getD_eq_getElem?_getD, List.getElem?_replicate, if_pos (by omega)]
      rfl
    rw [e]
    exact Bd.mono (m := 1) ⟨by decide, by decide, by decide⟩ (by omega)
  | i + 1, hi, k, hk => by
    have ih := accW_bd c i (by omega)
    rw [accW_succ, cnt_succ]
    unfold cstep
    have hb : bitsN i ≤ n := bitsN_le n (by have := c.hi; omega) c.lo i (by omega)
    by_cases h : bitsN i = k
    · subst h
      rw [if_pos rfl, getD_set_self (by rw [accW_len]; omega)]
      have w := (c.at_ (i := i) (by rw [c.len]; omega)).bd
      exact (addF_bd (ih _ hb) w).mono (by omega)
    · rw [if_neg h, getD_set_ne h]
      exact ih k hk
theorem pow32 {n : Nat} (h : n ≤ 5) : 2 ^ n ≤ 32 := Nat.pow_le_pow_right (n := 2) (by decide) h
theorem counts_len (n : Nat) (W : List Q2) : (counts n W).length = n + 1 := accW_len W n _
theorem counts_bd {n : Nat} {W : List Q2} (c : Car n W) {k : Nat} (hk : k ≤ n) : Bd 1111 ((counts n W).getD k (0, 1)) := by
  have h := accW_bd c (2 ^ n) (Nat.le_refl _) k hk
  have l := pow32 c.hi
  have := cnt_le k (by have := c.hi; omega) (2 ^ n) (by omega)
  exact h.mono (by omega)
theorem accW_bd_all {n : Nat} {W : List Q2} (c : Car n W) {i k : Nat} (hi : i ≤ 2 ^ n) (hk : k ≤ n) : Bd 1111 ((accW W n i).getD k (0, 1)) := by
  have h := accW_bd c i hi k hk
  have l := pow32 c.hi
  have := cnt_le k (by have := c.hi; omega) i (by omega)
  exact h.mono (by omega)
/-! ### bars -/
def barsF (R : List Q2) (k i j : Nat) : Bool := ltF (powF (R.getD k (0, 1)) (j - i)) (mulF (powF (R.getD i (0, 1)) (j - k)) (powF (R.getD j (0, 1)) (k - i)))
/-- all pairs around k, in order -/
def pairs (L k : Nat) : List (Nat × Nat) := (List.range k).flatMap fun i => (List.range (L - (k + 1))).map fun d => (i, k + 1 + d)
/-- the pairs that bar k, in order -/
def barL (R : List Q2) (k : Nat) : List (Nat × Nat) := (pairs R.length k).filter fun p => barsF R k p.1 p.2
def barF (R : List Q2) (k : Nat) : Option (Nat × Nat) := (pairs R.length k).find? fun p => barsF R k p.1 p.2
theorem barF_head (R : List Q2) (k : Nat) : (barL R k).head? = barF R k := List.head?_filter
theorem range_split {i k : Nat} (h : i < k) : ∃ r, List.range k = List.range i ++ i :: r := by
  refine ⟨(List.range (k - (i + 1))).map fun x => (i + 1) + x, ?_⟩
  have e : k = (i + 1) + (k - (i + 1)) := by omega
  have e2 : List.range ((i + 1) + (k - (i + 1))) = List.range (i + 1) ++ (List.range (k - (i + 1))).map fun x => (i + 1) + x := List.range_add
  rw [← e] at e2
  rw [e2, List.range_succ, List.append_assoc]
  rfl
/-- the pairs ahead of (i, k + 1 + d) -/
def ahead (L k i d : Nat) : List (Nat × Nat) := ((List.range i).flatMap fun i => (List.range (L - (k + 1))).map fun d => (i, k + 1 + d)) ++ (List.range d).map fun d => (i, k + 1 + d)
theorem ahead_zero (L k : Nat) : ahead L k 0 0 = [] := rfl
theorem ahead_next (L k i d : Nat) : ahead L k i (d + 1) = ahead L k i d ++ [(i, k + 1 + d)] := by
  unfold ahead
  rw [List.range_succ, List.map_append, ← List.append_assoc]
  rfl
theorem ahead_row (L k i : Nat) : ahead L k i (L - (k + 1)) = ahead L k (i + 1) 0 := by
  unfold ahead
  rw [List.range_succ, List.flatMap_append]
  simp
theorem ahead_all (L k : Nat) : ahead L k k 0 = pairs L k := by
  unfold ahead pairs
  simp
theorem pairs_split {L k i d : Nat} (hi : i < k) (hd : d < L - (k + 1)) : ∃ r, pairs L k = ahead L k i d ++ (i, k + 1 + d) :: r := by
  obtain ⟨r1, e1⟩ := range_split hi
  obtain ⟨r2, e2⟩ := range_split hd
  unfold pairs ahead
  rw [e1, List.flatMap_append, List.flatMap_cons]
  rw [show (List.range (L - (k + 1))).map (fun d => (i, k + 1 + d)) = (List.range d).map (fun d => (i, k + 1 + d)) ++ (i, k + 1 + d) :: r2.map fun d => (i, k + 1 + d) by rw [e2, List.map_append]; rfl]
  exact ⟨_, by rw [List.append_assoc, List.append_assoc, List.cons_append]⟩
theorem barF_some {R : List Q2} {k i d : Nat} (hi : i < k) (hd : d < R.length - (k + 1)) (no : ∀ p ∈ ahead R.length k i d, barsF R k p.1 p.2 = false) (yes : barsF R k i (k + 1 + d) = true) : barF R k = some (i, k + 1 + d) := by
  obtain ⟨r, e⟩ := pairs_split hi hd
  unfold barF
  rw [e, List.find?_append, List.find?_eq_none.mpr fun p hp => by rw [no p hp]; decide, List.find?_cons, yes]
  rfl
theorem barF_none {R : List Q2} {k : Nat} (no : ∀ p ∈ ahead R.length k k 0, barsF R k p.1 p.2 = false) : barF R k = none := by
  rw [ahead_all] at no
  exact List.find?_eq_none.mpr fun p hp => by rw [no p hp]; decide
theorem pairs_mem {L k : Nat} {p : Nat × Nat} (h : p ∈ pairs L k) : p.1 < k ∧ k < p.2 ∧ p.2 < L := by
  unfold pairs at h
  obtain ⟨i, hi, h2⟩ := List.mem_flatMap.mp h
  obtain ⟨d, hd, e⟩ := List.mem_map.mp h2
  rw [List.mem_range] at hi hd
  subst e
  exact ⟨hi, by show k < k + 1 + d; omega, by show k + 1 + d < L; omega⟩
theorem mem_pairs {L k i j : Nat} (h1 : i < k) (h2 : k < j) (h3 : j < L) : (i, j) ∈ pairs L k := by
  unfold pairs
  refine List.mem_flatMap.mpr ⟨i, List.mem_range.mpr h1, List.mem_map.mpr ⟨j - (k + 1), List.mem_range.mpr (by omega), ?_⟩⟩
  rw [show k + 1 + (j - (k + 1)) = j by omega]
/-- a row of counts -/
structure Row (n : Nat) (R : List Q2) : Prop where
  hi : n ≤ 5
  len : R.length = n + 1
  bd : ∀ k, k ≤ n → Bd 1111 (R.getD k (0, 1))
theorem Car.row {n : Nat} {W : List Q2} (c : Car n W) : Row n (counts n W) := ⟨c.hi, counts_len n W, fun _ h => counts_bd c h⟩
/-- a weight below 2 ^ b -/
structure Wb (b : Nat) (q : Q2) : Prop where
  pos : 0 < q.1
  bd : Bd b q
  co : Nat.gcd q.1 q.2 = 1
theorem Wb.mono {a b : Nat} {q : Q2} (h : Wb a q) (l : a ≤ b) : Wb b q := ⟨h.pos, h.bd.mono l, h.co⟩
theorem Wb.one : Wb 1 (1, 1) := ⟨by decide, ⟨by decide, by decide, by decide⟩, by decide⟩
theorem Wb.mul {a b : Nat} {p q : Q2} (x : Wb a p) (y : Wb b q) : Wb (a + b) (mulF p q) :=
  ⟨red_pos (Nat.mul_pos x.pos y.pos), mulF_bd x.bd y.bd, red_coprime (Nat.mul_pos x.bd.2.2 y.bd.2.2)⟩
theorem Wb.low {t u b : Nat} (ht : 0 < t) (hu : 0 < u) (bt : t < 2 ^ b) (bu : u < 2 ^ b) : Wb b (red t u) := ⟨red_pos ht, red_bd bt bu hu, red_coprime hu⟩
structure CarB (b n : Nat) (W : List Q2) : Prop where
  lo : 1 ≤ n
  hi : n ≤ 5
  len : W.length = 2 ^ n
  one : W[0]? = some (1, 1)
  wt : ∀ q ∈ W, Wb b q
theorem CarB.car {b n : Nat} {W : List Q2} (h : CarB b n W) (hb : b ≤ 110) : Car n W := ⟨h.lo, h.hi, h.len, h.one, fun q m => let w := h.wt q m; ⟨w.pos, w.bd.mono hb, w.co⟩⟩
theorem CarB.mono {a b n : Nat} {W : List Q2} (h : CarB a n W) (l : a ≤ b) : CarB b n W := ⟨h.lo, h.hi, h.len, h.one, fun q m => (h.wt q m).mono l⟩
theorem getD_mem {W : List Q2} {i : Nat} {d : Q2} (h : i < W.length) : W.getD i d ∈ W := by
  rw [List.getD_eq_getElem?_getD, List.getElem?_eq_getElem h]
  exact List.getElem_mem h
/-- the numbers that no pair bars -/
def dueN (n : Nat) (R : List Q2) : List Nat := (List.range (n + 1)).filter fun k => (barF R k).isNone
end G7
end

section
set_option Elab.async false
set_option linter.all false
set_option maxRecDepth 100000
set_option maxHeartbeats 4000000
namespace G7
open PySem PySem.Spec PyProof.Rows L2
/-- a fraction in the heap -/
def IsF (K : PySem.W.Frag) (H : Hp) (v : V) (q : Q2) : Prop := ∃ a, v = .ref a ∧ SqT K H a [.int (q.1 : Int), .int (q.2 : Int)]
theorem IsF.tx {K : PySem.W.Frag} {H H' : Hp} {v : V} {q : Q2} (h : IsF K H v q) (s : Tx H H') : IsF K H' v q := by
  obtain ⟨a, e, h⟩ := h
  exact ⟨a, e, s.sq h⟩
theorem IsF.mono {K : PySem.W.Frag} {H H' : Hp} {v : V} {q : Q2} (h : IsF K H v q) (s : Same H H') : IsF K H' v q := h.tx (Tx.of s)
theorem nat_pos {n : Nat} (h : 0 < n) : (0 : Int) < (n : Int) := by omega
section
variable {P : Program} {w : World} {K : PySem.W.Frag} {mg : Str → Option Value} {base : Heap}
/-! ### is_whole, is_between -/
def sp_is_whole : Sp := fun vs H Q _ => ∃ i : Int, vs = [.int i] ∧ Q (.bl true) H
abbrev N_is_whole : List Str := ["value"]
theorem sc_is_whole : FnScope N_is_whole ["value"] (defScope s_is_whole) := ⟨rfl, rfl, rfl, by decide +kernel, rfl, by decide +kernel, by decide +kernel⟩
theorem ok_is_whole (T : Tp K mg) : FnOk P w K mg base CX0 1 (fA K "is_whole") (fD K "is_whole") ["value"] sp_is_whole := by
  refine T.d_is_whole.F.ok sc_is_whole (fun vs H Q E h => ?_) (fun cdv A outer s H vs Q E hr h => ?_)
  · obtain ⟨_, rfl, _⟩ := h
    rfl
  · obtain ⟨i, rfl, q⟩ := h
    refine ⟨_, PSs.nox ((pss_one (ps_ret (pe_and (pe_callB call_isi (by rfl) T.z_isinstance (by decide +kernel) (pa_cons (pv 0) (pa_cons (pe_bltn (v := .ty "int") (by rfl) T.z_int (by decide +kernel) rfl) pa_nil))) (pe_one (pe_not (pe_callB call_isi (by rfl) T.z_isinstance (by decide +kernel) (pa_cons (pv 0) (pa_cons (pe_bltn (v := .ty "bool") (by rfl) T.z_bool (by decide +kernel) rfl) pa_nil))))))))), ?_⟩
    refine ⟨_, rfl, _, _, _, _, true, rfl, .ty "int", .base (.int i), kit_ty (by decide +kernel), true, rfl, iteT ?_⟩
    exact ⟨_, rfl, _, _, _, _, false, rfl, .ty "bool", .base (.int i), kit_ty (by decide +kernel), false, rfl, q⟩
def sp_is_between : Sp := fun vs H Q _ => ∃ i lo hi : Int, vs = [.int i, .int lo, .int hi] ∧ Q (.bl (decide (lo ≤ i) && decide (i ≤ hi))) H
abbrev N_is_between : List Str := ["value", "low", "high"]
theorem sc_is_between : FnScope N_is_between ["value", "low", "high"] (defScope s_is_between) := ⟨rfl, rfl, rfl, by decide +kernel, rfl, by decide +kernel, by decide +kernel⟩
theorem ok_is_between (T : Tp K mg) : FnOk P w K mg base CX0 2 (fA K "is_between") (fD K "is_between") ["value", "low", "high"] sp_is_between := by
  refine T.d_is_between.F.ok sc_is_between (fun vs H Q E h => ?_) (fun cdv A outer s H vs Q E hr h => ?_)
  · obtain ⟨_, _, _, rfl, _⟩ := h
    rfl
  · obtain ⟨i, lo, hi, rfl, q⟩ := h
    refine ⟨_, PSs.nox ((pss_one (ps_ret (pe_and (pe_call (ok_is_whole T) (hr.mono (by decide)) (by rfl) T.d_is_whole.g T.d_is_whole.F.kp T.b_is_whole .nil pass0 (pa_cons (pv 0) pa_nil)) (pe_and (pe_cmpR op_le (pv 1) (pv 0) (nomark _)) (pe_one (pe_cmpR op_le (pv 0) (pv 2) (nomark _)))))))), ?_⟩
    refine ⟨_, rfl, i, rfl, true, rfl, iteT ?_⟩
    refine ⟨_, rfl, _, rfl, _, _, rfl, rfl, _, rfl, ?_⟩
    cases e : decide (lo ≤ i) with
    | false =>
      rw [e] at q
      exact iteF q
    | true =>
      rw [e] at q
      exact iteT ⟨_, rfl, _, rfl, _, _, rfl, rfl, q⟩
/-! ### are_wholes -/
def sp_are_wholes (K : PySem.W.Frag) : Sp := fun vs H Q _ => ∃ (a : Addr) (ns : List Int) (n : Int), vs = [.ref a, .int n] ∧ SqT K H a (ns.map V.int) ∧ ns.length ≤ 1000 ∧ ∀ H', Same H H' → Q (.bl (decide ((ns.length : Int) = n))) H'
abbrev N_are_wholes : List Str := ["value", "many", "each"]
theorem sc_are_wholes : FnScope N_are_wholes ["value", "many"] (defScope s_are_wholes) := ⟨rfl, rfl, rfl, by decide +kernel, rfl, by decide +kernel, by decide +kernel⟩
theorem ok_are_wholes (T : Tp K mg) : FnOk P w K mg base CX0 2 (fA K "are_wholes") (fD K "are_wholes") ["value", "many"] (sp_are_wholes K) := by
  refine T.d_are_wholes.F.ok sc_are_wholes (fun vs H Q E h => ?_) (fun cdv A outer s H vs Q E hr h => ?_)
  · obtain ⟨_, _, _, rfl, _⟩ := h
    rfl
  · obtain ⟨a, ns, n, rfl, hS, hl, q⟩ := h
    refine ⟨_, PSs.nox ((pss_one (ps_ret (pe_and (pe_callB call_isi (by rfl) T.z_isinstance (by decide +kernel) (pa_cons (pv 0) (pa_cons (pe_bltn (v := .ty "tuple") (by rfl) T.z_tuple (by decide +kernel) rfl) pa_nil))) (pe_and (pe_cmpR op_eq (pe_callB call_len_seq (by rfl) T.z_len PySem.boot_len (pa_cons (pv 0) pa_nil)) (pv 1) (nomark _)) (pe_one (pe_callB (cr_all rfl) (by rfl) T.z_all (by decide +kernel) (pa_cons (pe_lc (own := [("each", 2)]) (g := gName 2) (tt := tYes) rfl sc_are_wholes.nd (pi_tup (pv 0)) (blkOk_by (N := N_are_wholes) (sc := defScope s_are_wholes) (by decide +kernel)) (fun _ _ _ _ _ => pg_name (i := 2) sc_are_wholes.nd rfl (Or.inl rfl)) (fun _ _ _ _ _ => pts_nil) (fun _ _ _ _ _ => (pe_call (ok_is_whole T) (hr.mono (by decide)) (by rfl) T.d_is_whole.g T.d_is_whole.F.kp T.b_is_whole .nil pass0 (pa_cons (pv 2) pa_nil)))) pa_nil)))))))), ?_⟩
    refine ⟨_, rfl, _, _, _, _, true, rfl, .ty "tuple", tyx_tup hS, kit_ty (by decide +kernel), true, rfl, iteT ?_⟩
    refine ⟨_, rfl, a, _, rfl, .inr hS, _, rfl, rfl, _, rfl, ?_⟩
    rw [dec_int, List.length_map]
    by_cases e : (ns.length : Int) = n
    · rw [decide_eq_true e] at q
      rw [show ((ns.length : Int) == n) = true from beq_iff_eq.mpr e]
      refine iteT (cb1 (lcT (fun _ y _ => y = .bl true) (fun R k => ⟨_, rfl, k⟩) hS (by rw [List.length_map]; omega) (fun _ => rfl) (fun _ _ _ _ _ h => h) ?_ ?_))
      · intro i x hx H2 s2 R k
        rw [List.getElem?_map] at hx
        obtain ⟨z, -, ez⟩ := Option.map_eq_some_iff.mp hx
        subst ez
        exact ⟨_, rfl, z, rfl, k _ _ (Same.refl _) rfl⟩
      · intro D H2 ys hD s2 eD len all
        have ey := all_same len all
        refine ⟨D, List.replicate ys.length true, rfl, ?_, ?_⟩
        · rw [List.map_replicate, len, ← ey]
          exact SqL.of eD
        · have et : (List.replicate ys.length true).all id = true := List.all_eq_true.mpr fun b hb => (List.mem_replicate.mp hb).2
          rw [et]
          exact q H2 s2
    · rw [decide_eq_false e] at q
      rw [show ((ns.length : Int) == n) = false from beq_eq_false_iff_ne.mpr e]
      exact iteF (q H (Same.refl H))
/-! ### divisor_of, lowest -/
def sp_divisor_of (K : PySem.W.Frag) : Sp := fun vs H Q _ => ∃ (a : Addr) (x y : Nat), vs = [.ref a] ∧ SqT K H a [.int (x : Int), .int (y : Int)] ∧ Q (.int (Nat.gcd x y : Nat)) H
abbrev N_divisor_of : List Str := ["numbers", "found", "number"]
theorem sc_divisor_of : FnScope N_divisor_of ["numbers"] (defScope s_divisor_of) := ⟨rfl, rfl, rfl, by decide +kernel, rfl, by decide +kernel, by decide +kernel⟩
theorem ok_divisor_of (T : Tp K mg) : FnOk P w K mg base CX0 1 (fA K "divisor_of") (fD K "divisor_of") ["numbers"] (sp_divisor_of K) := by
  refine T.d_divisor_of.F.ok sc_divisor_of (fun vs H Q E h => ?_) (fun cdv A outer s H vs Q E hr h => ?_)
  · obtain ⟨_, _, _, rfl, _⟩ := h
    rfl
  · obtain ⟨a, x, y, rfl, hS, q⟩ := h
    refine ⟨_, PSs.nox ((pss_cons (ps_set (i := 1) sc_divisor_of.nd rfl (Or.inl rfl) pe_int)
      (pss_cons (ps_for PassesOwn.never rfl (pi_tup (pv 0)) (pg_name (i := 2) sc_divisor_of.nd rfl (Or.inl rfl)) (pss_one (ps_set (i := 1) sc_divisor_of.nd rfl (Or.inl rfl) (pe_callBfun cr_gcd (by rfl) T.g_gcd (pa_cons (pv 1) (pa_cons (pv 2) pa_nil))))))
      (pss_one (ps_ret (pv 1)))))), ?_⟩
    refine ⟨.ref a, rfl, a, rfl, ⟨_, hS⟩, for_tup (xs := [.int (x : Int), .int (y : Int)]) (fun i σ H' => ∃ y2, σ = [some (.ref a), some (.int (([x, y].take i).foldl Nat.gcd 0 : Nat)), y2] ∧ H' = H) ⟨none, rfl, rfl⟩ (fun i σ H' _ p => ?_) ?_ ?_⟩
    · obtain ⟨_, _, rfl⟩ := p
      exact hS
    · rintro i z σ H' hz ⟨y2, rfl, rfl⟩
      match i, hz with
      | 0, hz =>
        cases hz
        exact ⟨_, rfl, _, rfl, _, _, rfl, _, rfl, rfl⟩
      | 1, hz =>
        cases hz
        exact ⟨_, rfl, _, rfl, _, _, rfl, _, rfl, rfl⟩
      | i + 2, hz => cases hz
    · rintro σ H' ⟨y2, rfl, rfl⟩
      refine ⟨_, rfl, ?_⟩
      have e : ([x, y].take 2).foldl Nat.gcd 0 = Nat.gcd x y := by
        show Nat.gcd (Nat.gcd 0 x) y = _
        rw [Nat.gcd_zero_left]
      show Q (.int ((([x, y].take 2).foldl Nat.gcd 0 : Nat) : Int)) _
      rw [e]
      exact q
end
end G7
end

section
set_option Elab.async false
set_option linter.all false
set_option maxRecDepth 100000
set_option maxHeartbeats 4000000
namespace G7
open PySem PySem.Spec PyProof.Rows L2
theorem natAbs_lt {n k : Nat} (h : n < 2 ^ k) : ((n : Int)).natAbs < 2 ^ k := h
theorem mulw {a b m n : Nat} (ha : a < 2 ^ m) (hb : b < 2 ^ n) (h : m + n ≤ 900000) : CMulW (a : Int) (b : Int) :=
  wide_mul (a := m + 1) (b := n + 1) (Nat.lt_of_lt_of_le (natAbs_lt ha) (Nat.pow_le_pow_right (by decide) (Nat.le_succ m))) (Nat.lt_of_lt_of_le (natAbs_lt hb) (Nat.pow_le_pow_right (by decide) (Nat.le_succ n))) (by omega) (by omega) (by omega)
theorem two_items {ys : List V} {u v : V} (l : ys.length = 2) (h0 : ∀ y, ys[0]? = some y → y = u) (h1 : ∀ y, ys[1]? = some y → y = v) : ys = [u, v] := by
  match ys, l with
  | [a, b], _ => rw [h0 a rfl, h1 b rfl]
section
variable {P : Program} {w : World} {K : PySem.W.Frag} {mg : Str → Option Value} {base : Heap}
/-! ### lowest, ratio -/
def sp_lowest (K : PySem.W.Frag) : Sp := fun vs H Q _ => ∃ (a : Addr) (x y : Nat), vs = [.ref a] ∧ SqT K H a [.int (x : Int), .int (y : Int)] ∧ 0 < y ∧ y < 2 ^ 8000 ∧ ∀ H' v, Same H H' → IsF K H' v (red x y) → Q v H'
abbrev N_lowest : List Str := ["numbers", "part", "number"]
theorem sc_lowest : FnScope N_lowest ["numbers"] (defScope s_lowest) := ⟨rfl, rfl, rfl, by decide +kernel, rfl, by decide +kernel, by decide +kernel⟩
theorem ok_lowest (T : Tp K mg) : FnOk P w K mg base CX0 2 (fA K "lowest") (fD K "lowest") ["numbers"] (sp_lowest K) := by
  refine T.d_lowest.F.ok sc_lowest (fun vs H Q E h => ?_) (fun cdv A outer s H vs Q E hr h => ?_)
  · obtain ⟨_, _, _, rfl, _⟩ := h
    rfl
  · obtain ⟨a, x, y, rfl, hS, y0, yb, q⟩ := h
    refine ⟨_, PSs.nox ((pss_cons (ps_set (i := 1) sc_lowest.nd rfl (Or.inr rfl) (pe_call (ok_divisor_of T) (hr.mono (by decide)) (by rfl) T.d_divisor_of.g T.d_divisor_of.F.kp T.b_divisor_of .nil pass0 (pa_cons (pv 0) pa_nil)))
      (pss_one (ps_ret (pe_ifExp (pt_cmpR op_eq (pv 1) pe_int (nomark _)) (pe_callTy call_tuple_of (by rfl) T.z_tuple (by decide +kernel) (pa_cons (pv 0) pa_nil)) (pe_callTy call_tuple_of (by rfl) T.z_tuple (by decide +kernel) (pa_cons (pe_lc (own := [("number", 2)]) (g := gName 2) (tt := tYes) rfl sc_lowest.nd (pi_tup (pv 0)) (blkOk_by (N := N_lowest) (sc := defScope s_lowest) (by decide +kernel)) (fun _ _ _ _ _ => pg_name (i := 2) sc_lowest.nd rfl (Or.inl rfl)) (fun _ _ _ _ _ => pts_nil) (fun _ _ _ _ _ => (pe_op op_fdivW (pv 2) (pv 1)))) pa_nil))))))), ?_⟩
    have g0 : 0 < Nat.gcd x y := gcd_pos x y0
    have gb : Nat.gcd x y < 2 ^ 8000 := Nat.lt_of_le_of_lt (gcd_le_right x y0) yb
    refine ⟨_, rfl, a, x, y, rfl, hS, _, rfl, rfl, _, rfl, ite2 (fun e => ?_) (fun _ => ?_)⟩
    · have e2 := V.int.inj (of_decide_eq_true e)
      omega
    refine cb1 (lcT (fun j z _ => ∃ n : Nat, [x, y][j]? = some n ∧ z = .int ((n / Nat.gcd x y : Nat) : Int)) (fun R k => ⟨_, rfl, k⟩) hS (by show 2 ≤ 100000; decide) (fun _ => rfl) (fun _ _ _ _ _ h => h) ?_ ?_)
    · intro i z hz H2 s2 R k
      have fin : ∀ n : Nat, z = .int (n : Int) → [x, y][i]? = some n → R (.int ((n : Int) / ((Nat.gcd x y : Nat) : Int))) H2 := fun n ez en => by
        refine k _ H2 (Same.refl _) ⟨n, en, ?_⟩
        rw [Int.natCast_ediv]
      have dv : CDivW ((0 : Nat) : Int) ((Nat.gcd x y : Nat) : Int) := wide_div (nat_pos g0) (natAbs_lt gb) (by decide) (by decide)
      match i, hz with
      | 0, hz =>
        cases hz
        exact ⟨_, rfl, _, rfl, _, _, rfl, rfl, dv, fin x rfl rfl⟩
      | 1, hz =>
        cases hz
        exact ⟨_, rfl, _, rfl, _, _, rfl, rfl, dv, fin y rfl rfl⟩
      | i + 2, hz => cases hz
    · intro D H2 ys hD s2 eD len all
      have ey : ys = [.int ((x / Nat.gcd x y : Nat) : Int), .int ((y / Nat.gcd x y : Nat) : Int)] := two_items len (fun z ez => by
          obtain ⟨n, en, e⟩ := all 0 z ez
          cases en
          exact e) (fun z ez => by
          obtain ⟨n, en, e⟩ := all 1 z ez
          cases en
          exact e)
      refine ⟨D, ys, rfl, .inl ⟨SqL.of eD, fun l hl => q _ _ (s2.trans (same_new hl)) ⟨l, rfl, ?_⟩⟩⟩
      subst ey
      exact SqT.of upd_same
def sp_ratio (K : PySem.W.Frag) : Sp := fun vs H Q _ => ∃ t u : Nat, vs = [.int (t : Int), .int (u : Int)] ∧ 0 < u ∧ u < 2 ^ 8000 ∧ ∀ H' v, Same H H' → IsF K H' v (red t u) → Q v H'
abbrev N_ratio : List Str := ["top", "low"]
theorem sc_ratio : FnScope N_ratio ["top", "low"] (defScope s_ratio) := ⟨rfl, rfl, rfl, by decide +kernel, rfl, by decide +kernel, by decide +kernel⟩
theorem ok_ratio (T : Tp K mg) : FnOk P w K mg base CX0 3 (fA K "ratio") (fD K "ratio") ["top", "low"] (sp_ratio K) := by
  refine T.d_ratio.F.ok sc_ratio (fun vs H Q E h => ?_) (fun cdv A outer s H vs Q E hr h => ?_)
  · obtain ⟨_, _, rfl, _⟩ := h
    rfl
  · obtain ⟨t, u, rfl, u0, ub, q⟩ := h
    refine ⟨_, PSs.nox ((pss_one (ps_ret (pe_ifExp (pt_cmpR op_gt (pv 1) pe_int (nomark _)) (pe_call (ok_lowest T) (hr.mono (by decide)) (by rfl) T.d_lowest.g T.d_lowest.F.kp T.b_lowest .nil pass0 (pa_cons (pe_tup (pa_cons (pv 0) (pa_cons (pv 1) pa_nil))) pa_nil)) (pe_call (ok_lowest T) (hr.mono (by decide)) (by rfl) T.d_lowest.g T.d_lowest.F.kp T.b_lowest .nil pass0 (pa_cons (pe_tup (pa_cons (pe_un un_neg (pv 0)) (pa_cons (pe_un un_neg (pv 1)) pa_nil))) pa_nil)))))), ?_⟩
    refine ⟨_, rfl, _, _, rfl, rfl, _, rfl, ?_⟩
    rw [decide_eq_true (nat_pos u0)]
    refine iteT ⟨_, rfl, _, rfl, by show 2 ≤ sizeLine; decide, fun p hp => ⟨p, t, u, rfl, SqT.of upd_same, u0, ub, fun H' v s' f => q H' v ((same_new hp).trans s') f⟩⟩
/-! ### plus, times, is_below -/
def sp_plus (K : PySem.W.Frag) : Sp := fun vs H Q _ => ∃ (x y : V) (p q : Q2) (m n : Nat), vs = [x, y] ∧ IsF K H x p ∧ IsF K H y q ∧ Bd m p ∧ Bd n q ∧ m + n ≤ 7999 ∧ ∀ H' v, Same H H' → IsF K H' v (addF p q) → Q v H'
abbrev N_plus : List Str := ["one", "two"]
theorem sc_plus : FnScope N_plus ["one", "two"] (defScope s_plus) := ⟨rfl, rfl, rfl, by decide +kernel, rfl, by decide +kernel, by decide +kernel⟩
theorem ok_plus (T : Tp K mg) : FnOk P w K mg base CX0 4 (fA K "plus") (fD K "plus") ["one", "two"] (sp_plus K) := by
  refine T.d_plus.F.ok sc_plus (fun vs H Q E h => ?_) (fun cdv A outer s H vs Q E hr h => ?_)
  · obtain ⟨_, _, _, _, _, _, rfl, _⟩ := h
    rfl
  · obtain ⟨_, _, p, q, m, n, rfl, ⟨a, rfl, ha⟩, ⟨b, rfl, hb⟩, bp, bq, mn, k⟩ := h
    refine ⟨_, PSs.nox ((pss_one (ps_ret (pe_call (ok_ratio T) (hr.mono (by decide)) (by rfl) T.d_ratio.g T.d_ratio.F.kp T.b_ratio .nil pass0 (pa_cons (pe_op op_add (pe_op op_mulW (pe_ix ix_tup (pv 0) pe_int (fun _ _ => rfl)) (pe_ix ix_tup (pv 1) pe_int (fun _ _ => rfl))) (pe_op op_mulW (pe_ix ix_tup (pv 1) pe_int (fun _ _ => rfl)) (pe_ix ix_tup (pv 0) pe_int (fun _ _ => rfl)))) (pa_cons (pe_op op_mulW (pe_ix ix_tup (pv 0) pe_int (fun _ _ => rfl)) (pe_ix ix_tup (pv 1) pe_int (fun _ _ => rfl))) pa_nil)))))), ?_⟩
    refine ⟨_, rfl, _, _, _, _, rfl, rfl, ha, rfl, _, rfl, _, _, _, _, rfl, rfl, hb, rfl, _, _, rfl, rfl, mulw bp.1 bq.2.1 (by omega),
      _, rfl, _, _, _, _, rfl, rfl, hb, rfl, _, rfl, _, _, _, _, rfl, rfl, ha, rfl, _, _, rfl, rfl, mulw bq.1 bp.2.1 (by omega), _, _, rfl, rfl,
      _, rfl, _, _, _, _, rfl, rfl, ha, rfl, _, rfl, _, _, _, _, rfl, rfl, hb, rfl, _, _, rfl, rfl, mulw bp.2.1 bq.2.1 (by omega), ?_⟩
    have u0 : 0 < p.2 * q.2 := Nat.mul_pos bp.2.2 bq.2.2
    have ub : p.2 * q.2 < 2 ^ 8000 := Nat.lt_of_lt_of_le (mul_lt_pow bp.2.1 bq.2.1) (Nat.pow_le_pow_right (by decide) (by omega))
    exact ⟨p.1 * q.2 + q.1 * p.2, p.2 * q.2, by simp only [Int.natCast_add, Int.natCast_mul, List.append_nil], u0, ub, fun H' v s' f => k H' v s' f⟩
def sp_times (K : PySem.W.Frag) : Sp := fun vs H Q _ => ∃ (x y : V) (p q : Q2) (m n : Nat), vs = [x, y] ∧ IsF K H x p ∧ IsF K H y q ∧ Bd m p ∧ Bd n q ∧ m + n ≤ 7999 ∧ ∀ H' v, Same H H' → IsF K H' v (mulF p q) → Q v H'
abbrev N_times : List Str := ["one", "two"]
theorem sc_times : FnScope N_times ["one", "two"] (defScope s_times) := ⟨rfl, rfl, rfl, by decide +kernel, rfl, by decide +kernel, by decide +kernel⟩
theorem ok_times (T : Tp K mg) : FnOk P w K mg base CX0 4 (fA K "times") (fD K "times") ["one", "two"] (sp_times K) := by
  refine T.d_times.F.ok sc_times (fun vs H Q E h => ?_) (fun cdv A outer s H vs Q E hr h => ?_)
  · obtain ⟨_, _, _, _, _, _, rfl, _⟩ := h
    rfl
  · obtain ⟨_, _, p, q, m, n, rfl, ⟨a, rfl, ha⟩, ⟨b, rfl, hb⟩, bp, bq, mn, k⟩ := h
    refine ⟨_, PSs.nox ((pss_one (ps_ret (pe_call (ok_ratio T) (hr.mono (by decide)) (by rfl) T.d_ratio.g T.d_ratio.F.kp T.b_ratio .nil pass0 (pa_cons (pe_op op_mulW (pe_ix ix_tup (pv 0) pe_int (fun _ _ => rfl)) (pe_ix ix_tup (pv 1) pe_int (fun _ _ => rfl))) (pa_cons (pe_op op_mulW (pe_ix ix_tup (pv 0) pe_int (fun _ _ => rfl)) (pe_ix ix_tup (pv 1) pe_int (fun _ _ => rfl))) pa_nil)))))), ?_⟩
    refine ⟨_, rfl, _, _, _, _, rfl, rfl, ha, rfl, _, rfl, _, _, _, _, rfl, rfl, hb, rfl, _, _, rfl, rfl, mulw bp.1 bq.1 (by omega),
      _, rfl, _, _, _, _, rfl, rfl, ha, rfl, _, rfl, _, _, _, _, rfl, rfl, hb, rfl, _, _, rfl, rfl, mulw bp.2.1 bq.2.1 (by omega), ?_⟩
    have u0 : 0 < p.2 * q.2 := Nat.mul_pos bp.2.2 bq.2.2
    have ub : p.2 * q.2 < 2 ^ 8000 := Nat.lt_of_lt_of_le (mul_lt_pow bp.2.1 bq.2.1) (Nat.pow_le_pow_right (by decide) (by omega))
    exact ⟨p.1 * q.1, p.2 * q.2, by simp only [Int.natCast_mul, List.append_nil], u0, ub, fun H' v s' f => k H' v s' f⟩
def sp_is_below (K : PySem.W.Frag) : Sp := fun vs H Q _ => ∃ (x y : V) (p q : Q2) (m n : Nat), vs = [x, y] ∧ IsF K H x p ∧ IsF K H y q ∧ Bd m p ∧ Bd n q ∧ m + n ≤ 900000 ∧ Q (.bl (ltF p q)) H
abbrev N_is_below : List Str := ["one", "two"]
theorem sc_is_below : FnScope N_is_below ["one", "two"] (defScope s_is_below) := ⟨rfl, rfl, rfl, by decide +kernel, rfl, by decide +kernel, by decide +kernel⟩
theorem ok_is_below (T : Tp K mg) : FnOk P w K mg base CX0 1 (fA K "is_below") (fD K "is_below") ["one", "two"] (sp_is_below K) := by
  refine T.d_is_below.F.ok sc_is_below (fun vs H Q E h => ?_) (fun cdv A outer s H vs Q E hr h => ?_)
  · obtain ⟨_, _, _, _, _, _, rfl, _⟩ := h
    rfl
  · obtain ⟨_, _, p, q, m, n, rfl, ⟨a, rfl, ha⟩, ⟨b, rfl, hb⟩, bp, bq, mn, k⟩ := h
    refine ⟨_, PSs.nox ((pss_one (ps_ret (pe_cmpR op_lt (pe_op op_mulW (pe_ix ix_tup (pv 0) pe_int (fun _ _ => rfl)) (pe_ix ix_tup (pv 1) pe_int (fun _ _ => rfl))) (pe_op op_mulW (pe_ix ix_tup (pv 1) pe_int (fun _ _ => rfl)) (pe_ix ix_tup (pv 0) pe_int (fun _ _ => rfl))) (nomark _))))), ?_⟩
    refine ⟨_, rfl, _, _, _, _, rfl, rfl, ha, rfl, _, rfl, _, _, _, _, rfl, rfl, hb, rfl, _, _, rfl, rfl, mulw bp.1 bq.2.1 (by omega),
      _, rfl, _, _, _, _, rfl, rfl, hb, rfl, _, rfl, _, _, _, _, rfl, rfl, ha, rfl, _, _, rfl, rfl, mulw bq.1 bp.2.1 (by omega), _, _, rfl, rfl, ?_⟩
    have e : decide ((p.1 : Int) * (q.2 : Int) < (q.1 : Int) * (p.2 : Int)) = ltF p q := by
      unfold ltF
      rw [← Int.natCast_mul, ← Int.natCast_mul]
      exact decide_eq_decide.mpr Int.ofNat_lt
    show Q (.bl (decide ((p.1 : Int) * (q.2 : Int) < (q.1 : Int) * (p.2 : Int)))) H
    rw [e]
    exact k
end
end G7
end

section
set_option Elab.async false
set_option linter.all false
set_option maxRecDepth 100000
set_option maxHeartbeats 4000000
namespace G7
open PySem PySem.Spec PyProof.Rows L2
section
variable {P : Program} {w : World} {K : PySem.W.Frag} {mg : Str → Option Value} {base : Heap}
def sp_bits_in : Sp := fun vs H Q _ => ∃ n : Nat, vs = [.int (n : Int)] ∧ n < 64 ∧ Q (.int (bitsN n : Nat)) H
abbrev N_bits_in : List Str := ["number", "found"]
theorem sc_bits_in : FnScope N_bits_in ["number"] (defScope s_bits_in) := ⟨rfl, rfl, rfl, by decide +kernel, rfl, by decide +kernel, by decide +kernel⟩
theorem ok_bits_in (T : Tp K mg) : FnOk P w K mg base CX0 1 (fA K "bits_in") (fD K "bits_in") ["number"] sp_bits_in := by
  refine T.d_bits_in.F.ok sc_bits_in (fun vs H Q E h => ?_) (fun cdv A outer s H vs Q E hr h => ?_)
  · obtain ⟨_, rfl, _⟩ := h
    rfl
  · obtain ⟨n, rfl, n64, q⟩ := h
    refine ⟨_, PSs.nox ((pss_cons (ps_set (i := 1) sc_bits_in.nd rfl (Or.inl rfl) pe_int)
      (pss_cons (ps_while PassesOwn.never (pt_cmpR op_gt (pv 0) pe_int (nomark _)) (pss_one (ps_par (i := 1) (j := 0) rfl sc_bits_in.nd rfl rfl (by decide) rfl rfl (pa_cons (pe_op op_add (pv 1) (pe_op op_mod (pv 0) pe_int)) (pa_cons (pe_op op_fdiv (pv 0) pe_int) pa_nil)) (by rfl))))
      (pss_one (ps_ret (pv 1)))))), ?_⟩
    refine ⟨fun m σ H' => ∃ r c : Nat, σ = [some (.int (r : Int)), some (.int (c : Int))] ∧ c + bitsN r = bitsN n ∧ r < 64 ∧ m = r ∧ H' = H, ⟨n, n, 0, rfl, by omega, n64, rfl, rfl⟩, ?_⟩
    rintro m σ H' ⟨r, c, rfl, hc, r64, rfl, rfl⟩
    refine ⟨_, rfl, _, _, rfl, rfl, _, rfl, ?_⟩
    by_cases h0 : 0 < m
    · rw [decide_eq_true (nat_pos h0)]
      refine iteT ⟨fun σ' H2 => ∃ r c : Nat, σ' = [some (.int (r : Int)), some (.int (c : Int))] ∧ c + bitsN r = bitsN n ∧ r = m / 2 ∧ H2 = H', ?_, ?_⟩
      · rintro σ' H2 ⟨r, c, rfl, hc, rfl, rfl⟩
        exact ⟨m / 2, by omega, m / 2, c, rfl, hc, by omega, rfl, rfl⟩
      · refine ⟨_, rfl, _, rfl, _, _, rfl, rfl, (by show (0 : Int) < 2; decide), _, _, rfl, rfl, _, rfl, _, _, rfl, rfl, ⟨by decide, by decide⟩, _, _, rfl, m / 2, c + m % 2, ?_, ?_, rfl, rfl⟩
        · show [some (V.int ((m : Int) / 2)), some (V.int ((c : Int) + (m : Int) % 2))] = _
          have e1 : ((m / 2 : Nat) : Int) = (m : Int) / 2 := by omega
          have e2 : ((c + m % 2 : Nat) : Int) = (c : Int) + (m : Int) % 2 := by omega
          rw [e1, e2]
        · rw [← hc, bitsN_half r64]
          omega
    · have e0 : m = 0 := by omega
      subst e0
      rw [bitsN_zero] at hc
      have ec : c = bitsN n := by omega
      refine iteF ⟨_, rfl, ?_⟩
      rw [ec]
      exact q
/-! ### power -/
def sp_power (K : PySem.W.Frag) : Sp := fun vs H Q _ => ∃ (x : V) (q : Q2) (n k : Nat), vs = [x, .int (k : Int)] ∧ IsF K H x q ∧ Bd n q ∧ 0 < n ∧ n ≤ 2000 ∧ k ≤ 100 ∧ ∀ H' v, Same H H' → IsF K H' v (powF q k) → Q v H'
abbrev N_power : List Str := ["one", "many", "top", "low", "_"]
theorem sc_power : FnScope N_power ["one", "many"] (defScope s_power) := ⟨rfl, rfl, rfl, by decide +kernel, rfl, by decide +kernel, by decide +kernel⟩
theorem ok_power (T : Tp K mg) : FnOk P w K mg base CX0 1 (fA K "power") (fD K "power") ["one", "many"] (sp_power K) := by
  refine T.d_power.F.ok sc_power (fun vs H Q E h => ?_) (fun cdv A outer s H vs Q E hr h => ?_)
  · obtain ⟨_, _, _, _, rfl, _⟩ := h
    rfl
  · obtain ⟨_, p, n, k, rfl, ⟨a, rfl, ha⟩, bp, n0, nn, kk, q⟩ := h
    refine ⟨_, PSs.nox ((pss_cons (ps_asg (pe_tup (pa_cons pe_int (pa_cons pe_int pa_nil))) (pg_tup rfl (pgs_cons (pg_name (i := 2) sc_power.nd rfl (Or.inl rfl)) (pgs_cons (pg_name (i := 3) sc_power.nd rfl (Or.inl rfl)) pgs_nil))))
      (pss_cons (ps_for PassesOwn.never rfl (pi_range1 (by rfl) T.z_range (pa_cons (pv 1) pa_nil)) (pg_name (i := 4) sc_power.nd rfl (Or.inl rfl)) (pss_one (ps_par (i := 2) (j := 3) rfl sc_power.nd rfl rfl (by decide) rfl rfl (pa_cons (pe_op op_mulW (pv 2) (pe_ix ix_tup (pv 0) pe_int (fun _ _ => rfl))) (pa_cons (pe_op op_mulW (pv 3) (pe_ix ix_tup (pv 0) pe_int (fun _ _ => rfl))) pa_nil)) (by rfl))))
      (pss_one (ps_ret (pe_tup (pa_cons (pv 2) (pa_cons (pv 3) pa_nil)))))))), ?_⟩
    refine ⟨by show 2 ≤ sizeLine; decide, fun t ht => ?_⟩
    refine ⟨t, _, rfl, SqT.of upd_same, rfl, _, _, rfl, _, _, rfl, rfl, ?_⟩
    refine ⟨_, rfl, (k : Int), rfl, by omega, by omega, for_range (lo := 0) (fun i σ H' => ∃ y4, σ = [some (.ref a), some (.int (k : Int)), some (.int ((p.1 ^ i : Nat) : Int)), some (.int ((p.2 ^ i : Nat) : Int)), y4] ∧ Same H H') ⟨none, rfl, same_new ht⟩ ?_ ?_⟩
    · rintro i σ H' hi ⟨y4, rfl, s1⟩
      have hk : i < k := by
        rw [Int.toNat_natCast] at hi
        exact hi
      have ni : n * i + 1 + n ≤ 900000 := by
        have : n * i ≤ 2000 * 100 := Nat.mul_le_mul nn (by omega)
        omega
      refine ⟨_, rfl, _, rfl, _, _, _, _, rfl, rfl, Same.tup s1 ha, rfl, _, _, rfl, rfl, mulw (pow_bd bp.1 n0 i) bp.1 ni, _, rfl, _, rfl, _, _, _, _, rfl, rfl, Same.tup s1 ha, rfl, _, _, rfl, rfl, mulw (pow_bd bp.2.1 n0 i) bp.2.1 ni, _, _, rfl, some (.int (0 + (i : Int))), ?_, s1⟩
      rw [Nat.pow_succ, Nat.pow_succ, Int.natCast_mul, Int.natCast_mul]
      rfl
    · rintro σ H' ⟨y4, rfl, s1⟩
      rw [Int.toNat_natCast]
      exact ⟨_, rfl, _, rfl, by show 2 ≤ sizeLine; decide, fun l hl => q _ _ (s1.trans (same_new hl)) ⟨l, rfl, SqT.of upd_same⟩⟩
/-! ### is_ratio, is_amount -/
theorem IsF.ints {K : PySem.W.Frag} {H : Hp} {a : Addr} {q : Q2} (h : SqT K H a [.int (q.1 : Int), .int (q.2 : Int)]) : SqT K H a ([(q.1 : Int), (q.2 : Int)].map V.int) := h
def sp_is_ratio (K : PySem.W.Frag) : Sp := fun vs H Q _ => ∃ (x : V) (q : Q2), vs = [x] ∧ IsF K H x q ∧ 0 < q.2 ∧ Nat.gcd q.1 q.2 = 1 ∧ ∀ H', Same H H' → Q (.bl true) H'
abbrev N_is_ratio : List Str := ["value"]
theorem sc_is_ratio : FnScope N_is_ratio ["value"] (defScope s_is_ratio) := ⟨rfl, rfl, rfl, by decide +kernel, rfl, by decide +kernel, by decide +kernel⟩
theorem ok_is_ratio (T : Tp K mg) : FnOk P w K mg base CX0 3 (fA K "is_ratio") (fD K "is_ratio") ["value"] (sp_is_ratio K) := by
  refine T.d_is_ratio.F.ok sc_is_ratio (fun vs H Q E h => ?_) (fun cdv A outer s H vs Q E hr h => ?_)
  · obtain ⟨_, _, rfl, _⟩ := h
    rfl
  · obtain ⟨_, p, rfl, ⟨a, rfl, ha⟩, p0, pg, q⟩ := h
    refine ⟨_, PSs.nox ((pss_one (ps_ret (pe_and (pe_call (ok_are_wholes T) (hr.mono (by decide)) (by rfl) T.d_are_wholes.g T.d_are_wholes.F.kp T.b_are_wholes .nil pass0 (pa_cons (pv 0) (pa_cons pe_int pa_nil))) (pe_and (pe_cmpR op_gt (pe_ix ix_tup (pv 0) pe_int (fun _ _ => rfl)) pe_int (nomark _)) (pe_one (pe_cmpR op_eq (pe_call (ok_divisor_of T) (hr.mono (by decide)) (by rfl) T.d_divisor_of.g T.d_divisor_of.F.kp T.b_divisor_of .nil pass0 (pa_cons (pv 0) pa_nil)) pe_int (nomark _)))))))), ?_⟩
    refine ⟨_, rfl, a, _, 2, rfl, IsF.ints ha, by show 2 ≤ 1000; decide, fun H1 s1 => ⟨true, rfl, iteT ?_⟩⟩
    refine ⟨_, rfl, _, _, _, _, rfl, rfl, Same.tup s1 ha, rfl, _, _, rfl, rfl, true, ?_, iteT ?_⟩
    · show V.bl (decide ((0 : Int) < (p.2 : Int))) = V.bl true
      rw [decide_eq_true (nat_pos p0)]
    · refine ⟨_, rfl, a, p.1, p.2, rfl, Same.tup s1 ha, rfl, ?_⟩
      rw [pg]
      exact q _ s1
def sp_is_amount (K : PySem.W.Frag) : Sp := fun vs H Q _ => ∃ (x : V) (q : Q2), vs = [x] ∧ IsF K H x q ∧ 0 < q.1 ∧ 0 < q.2 ∧ Nat.gcd q.1 q.2 = 1 ∧ ∀ H', Same H H' → Q (.bl true) H'
abbrev N_is_amount : List Str := ["value"]
theorem sc_is_amount : FnScope N_is_amount ["value"] (defScope s_is_amount) := ⟨rfl, rfl, rfl, by decide +kernel, rfl, by decide +kernel, by decide +kernel⟩
theorem ok_is_amount (T : Tp K mg) : FnOk P w K mg base CX0 4 (fA K "is_amount") (fD K "is_amount") ["value"] (sp_is_amount K) := by
  refine T.d_is_amount.F.ok sc_is_amount (fun vs H Q E h => ?_) (fun cdv A outer s H vs Q E hr h => ?_)
  · obtain ⟨_, _, rfl, _⟩ := h
    rfl
  · obtain ⟨_, p, rfl, ⟨a, rfl, ha⟩, p1, p2, pg, q⟩ := h
    refine ⟨_, PSs.nox ((pss_one (ps_ret (pe_and (pe_call (ok_is_ratio T) (hr.mono (by decide)) (by rfl) T.d_is_ratio.g T.d_is_ratio.F.kp T.b_is_ratio .nil pass0 (pa_cons (pv 0) pa_nil)) (pe_one (pe_cmpR op_gt (pe_ix ix_tup (pv 0) pe_int (fun _ _ => rfl)) pe_int (nomark _))))))), ?_⟩
    refine ⟨_, rfl, .ref a, p, rfl, ⟨a, rfl, ha⟩, p2, pg, fun H1 s1 => ⟨true, rfl, iteT ?_⟩⟩
    refine ⟨_, rfl, _, _, _, _, rfl, rfl, Same.tup s1 ha, rfl, _, _, rfl, rfl, ?_⟩
    show Q (.bl (decide ((0 : Int) < (p.1 : Int)))) H1
    rw [decide_eq_true (nat_pos p1)]
    exact q _ s1
end
end G7
end

section
set_option Elab.async false
set_option linter.all false
set_option maxRecDepth 100000
set_option maxHeartbeats 4000000
namespace G7
open PySem PySem.Spec PyProof.Rows L2
/-- fractions in a row -/
def IsFs (K : PySem.W.Frag) (H : Hp) (vs : List V) (qs : List Q2) : Prop := vs.length = qs.length ∧ ∀ i, i < qs.length → ∃ v, vs[i]? = some v ∧ IsF K H v (qs.getD i (0, 1))
theorem IsFs.tx {K : PySem.W.Frag} {H H' : Hp} {vs : List V} {qs : List Q2} (h : IsFs K H vs qs) (s : Tx H H') : IsFs K H' vs qs :=
  ⟨h.1, fun i hi => by
    obtain ⟨v, e, f⟩ := h.2 i hi
    exact ⟨v, e, f.tx s⟩⟩
theorem IsFs.set {K : PySem.W.Frag} {H : Hp} {vs : List V} {qs : List Q2} {v : V} {q : Q2} (h : IsFs K H vs qs) (f : IsF K H v q) (k : Nat) : IsFs K H (vs.set k v) (qs.set k q) := by
  refine ⟨by rw [List.length_set, List.length_set, h.1], fun i hi => ?_⟩
  rw [List.length_set] at hi
  by_cases e : k = i
  · subst e
    refine ⟨v, List.getElem?_set_self (by rw [h.1]; exact hi), ?_⟩
    rw [getD_set_self hi]
    exact f
  · obtain ⟨u, eu, fu⟩ := h.2 i hi
    refine ⟨u, by rw [List.getElem?_set_ne e]; exact eu, ?_⟩
    rw [getD_set_ne e]
    exact fu
/-- a carrier, a row in the heap -/
def IsC (K : PySem.W.Frag) (H : Hp) (v : V) (W : List Q2) : Prop := ∃ a vs, v = .ref a ∧ SqT K H a vs ∧ IsFs K H vs W
theorem IsC.tx {K : PySem.W.Frag} {H H' : Hp} {v : V} {W : List Q2} (h : IsC K H v W) (s : Tx H H') : IsC K H' v W := by
  obtain ⟨a, vs, e, t, f⟩ := h
  exact ⟨a, vs, e, s.sq t, f.tx s⟩
theorem IsC.mono {K : PySem.W.Frag} {H H' : Hp} {v : V} {W : List Q2} (h : IsC K H v W) (s : Same H H') : IsC K H' v W := h.tx (Tx.of s)
def IsR (K : PySem.W.Frag) (H : Hp) (a : Addr) (R : List Q2) : Prop := ∃ vs, H a = some (.lst vs) ∧ IsFs K H vs R
theorem IsR.mono {K : PySem.W.Frag} {H H' : Hp} {a : Addr} {R : List Q2} (h : IsR K H a R) (s : Same H H') : IsR K H' a R := by
  obtain ⟨vs, e, f⟩ := h
  exact ⟨vs, s _ _ e, f.tx (Tx.of s)⟩
theorem sizes_in : ∀ n, 1 ≤ n → n ≤ 5 → inV (.int ((2 ^ n : Nat) : Int)) [.int 2, .int 4, .int 8, .int 16, .int 32] = true := by
  intro n h1 h2
  match n, h1, h2 with
  | 1, _, _ => decide
  | 2, _, _ => decide
  | 3, _, _ => decide
  | 4, _, _ => decide
  | 5, _, _ => decide
theorem sizes_at : ∀ n, 1 ≤ n → n ≤ 5 → ((2 ^ n : Nat) : Int) ∈ [(2 : Int), 4, 8, 16, 32] ∧ ([(2 : Int), 4, 8, 16, 32].idxOf ((2 ^ n : Nat) : Int)) + 1 = n := by
  intro n h1 h2
  match n, h1, h2 with
  | 1, _, _ => decide
  | 2, _, _ => decide
  | 3, _, _ => decide
  | 4, _, _ => decide
  | 5, _, _ => decide
section
variable {P : Program} {w : World} {K : PySem.W.Frag} {mg : Str → Option Value} {base : Heap}
theorem one_dp {H : Hp} {a : Addr} (h : SqT K H a [.int 1, .int 1]) : Dp K H (.ref a) (.tuple [.int 1, .int 1]) := .tup h (.cons (.int 1) (.cons (.int 1) .nil))
def sp_is_carrier (K : PySem.W.Frag) : Sp := fun vs H Q _ => ∃ (c : V) (W : List Q2) (n : Nat), vs = [c] ∧ IsC K H c W ∧ Car n W ∧ ∀ H', Same H H' → Q (.bl true) H'
abbrev N_is_carrier : List Str := ["value", "each"]
theorem sc_is_carrier : FnScope N_is_carrier ["value"] (defScope s_is_carrier) := ⟨rfl, rfl, rfl, by decide +kernel, rfl, by decide +kernel, by decide +kernel⟩
theorem ok_is_carrier (T : Tp K mg) : FnOk P w K mg base CX0 5 (fA K "is_carrier") (fD K "is_carrier") ["value"] (sp_is_carrier K) := by
  refine T.d_is_carrier.F.ok sc_is_carrier (fun vs H Q E h => ?_) (fun cdv A outer s H vs Q E hr h => ?_)
  · obtain ⟨_, _, _, rfl, _⟩ := h
    rfl
  · obtain ⟨_, W, n, rfl, ⟨a, vs, rfl, hS, hF⟩, C, q⟩ := h
    have hl : vs.length = 2 ^ n := by rw [hF.1, C.len]
    have l32 : vs.length ≤ 32 := by rw [hF.1]; exact C.len32
    refine ⟨_, PSs.nox ((pss_cons (ps_if (PW.pt (pw_or (pt_not (pt_val (pe_callB call_isi (by rfl) T.z_isinstance (by decide +kernel) (pa_cons (pv 0) (pa_cons (pe_bltn (v := .ty "tuple") (by rfl) T.z_tuple (by decide +kernel) rfl) pa_nil))))) (pw_or1 (pt_cmpR op_notIn_seq (pe_callB call_len_seq (by rfl) T.z_len PySem.boot_len (pa_cons (pv 0) pa_nil)) (pe_glob (v := .ref (fA K "SIZES")) (by rfl) T.t_SIZES.1 rfl) (by rfl))))) (pss_one (ps_ret pe_bl)) pss_nil)
      (pss_one (ps_ret (pe_and (pe_callB (cr_all rfl) (by rfl) T.z_all (by decide +kernel) (pa_cons (pe_lc (own := [("each", 1)]) (g := gName 1) (tt := tYes) rfl sc_is_carrier.nd (pi_tup (pv 0)) (blkOk_by (N := N_is_carrier) (sc := defScope s_is_carrier) (by decide +kernel)) (fun _ _ _ _ _ => pg_name (i := 1) sc_is_carrier.nd rfl (Or.inl rfl)) (fun _ _ _ _ _ => pts_nil) (fun _ _ _ _ _ => (pe_call (ok_is_amount T) (hr.mono (by decide)) (by rfl) T.d_is_amount.g T.d_is_amount.F.kp T.b_is_amount .nil pass0 (pa_cons (pv 1) pa_nil)))) pa_nil)) (pe_one (pe_cmpR (op_eqD hr.units) (pe_ix ix_tup (pv 0) pe_int (fun _ _ => rfl)) (pe_glob (v := .ref (fA K "ONE")) (by rfl) T.t_ONE.1 rfl) (nomark _)))))))), ?_⟩
    refine ⟨_, rfl, _, _, _, _, true, rfl, .ty "tuple", tyx_tup hS, kit_ty (by decide +kernel), true, rfl, ?_⟩
    refine iteF ⟨_, rfl, a, _, rfl, .inr hS, _, _, rfl, .inr (T.t_SIZES.2.1 _), rfl, rfl, _, rfl, ?_⟩
    have e : inV (.int (vs.length : Int)) [.int 2, .int 4, .int 8, .int 16, .int 32] = true := by
      rw [hl]
      exact sizes_in n C.lo C.hi
    show if (!inV (.int (vs.length : Int)) [.int 2, .int 4, .int 8, .int 16, .int 32]) = true then _ else _
    rw [e]
    refine iteF (nx1 ?_)
    dsimp only
    refine rt1 (and1 (cb1 (lcT (fun _ y _ => y = .bl true) (fun R k => ⟨_, rfl, k⟩) hS (by omega) (fun _ => rfl) (fun _ _ _ _ _ h => h) ?_ ?_)))
    · intro i x hx H2 s2 R k
      have hi : i < W.length := by rw [← hF.1]; exact (List.getElem?_eq_some_iff.mp hx).1
      obtain ⟨v, ev, f⟩ := hF.2 i hi
      rw [hx] at ev
      cases ev
      have w := C.at_ hi
      exact ⟨_, rfl, x, _, rfl, f.mono s2, w.pos, w.bd.2.2, w.co, fun H' s' => k _ _ s' rfl⟩
    · intro D H2 ys hD s2 eD len all
      have ey := all_same len all
      refine ⟨D, List.replicate ys.length true, rfl, ?_, ?_⟩
      · rw [List.map_replicate, len, ← ey]
        exact SqL.of eD
      · have et : (List.replicate ys.length true).all id = true := List.all_eq_true.mpr fun b hb => (List.mem_replicate.mp hb).2
        rw [et]
        have w0 : 0 < W.length := by rw [C.len]; exact Nat.two_pow_pos n
        obtain ⟨v, ev, f⟩ := hF.2 0 w0
        have e1 : W.getD 0 (0, 1) = (1, 1) := by
          rw [List.getD_eq_getElem?_getD, C.one]
          rfl
        rw [e1] at f
        obtain ⟨b, rfl, hb⟩ := f
        exact ⟨true, rfl, iteT ⟨_, rfl, a, vs, 0, .ref b, rfl, rfl, Same.tup s2 hS, atI_nat (j := 0) ev, _, _, one_dp (Same.tup s2 hb), one_dp (T.t_ONE.2.1 _), by decide +kernel, by decide +kernel, q _ s2⟩⟩
def sp_check_carrier (K : PySem.W.Frag) : Sp := fun vs H Q _ => ∃ (c : V) (W : List Q2) (n : Nat), vs = [c] ∧ IsC K H c W ∧ Car n W ∧ ∀ H', Same H H' → Q .non H'
abbrev N_check_carrier : List Str := ["value"]
theorem sc_check_carrier : FnScope N_check_carrier ["value"] (defScope s_check_carrier) := ⟨rfl, rfl, rfl, by decide +kernel, rfl, by decide +kernel, by decide +kernel⟩
theorem ok_check_carrier (T : Tp K mg) : FnOk P w K mg base CX0 6 (fA K "check_carrier") (fD K "check_carrier") ["value"] (sp_check_carrier K) := by
  refine T.d_check_carrier.F.ok sc_check_carrier (fun vs H Q E h => ?_) (fun cdv A outer s H vs Q E hr h => ?_)
  · obtain ⟨_, _, _, rfl, _⟩ := h
    rfl
  · obtain ⟨c, W, n, rfl, hC, C, q⟩ := h
    refine ⟨_, PSs.nox ((pss_one (ps_if (pt_not (pt_val (pe_call (ok_is_carrier T) (hr.mono (by decide)) (by rfl) T.d_is_carrier.g T.d_is_carrier.F.kp T.b_is_carrier .nil pass0 (pa_cons (pv 0) pa_nil)))) (pss_one ps_never) pss_nil))), ?_⟩
    exact ⟨_, rfl, c, W, n, rfl, hC, C, fun H' s' => ⟨true, rfl, iteF (q H' s')⟩⟩
def sp_seat_count (K : PySem.W.Frag) : Sp := fun vs H Q _ => ∃ (c : V) (W : List Q2) (n : Nat), vs = [c] ∧ IsC K H c W ∧ Car n W ∧ Q (.int (n : Int)) H
abbrev N_seat_count : List Str := ["carrier"]
theorem sc_seat_count : FnScope N_seat_count ["carrier"] (defScope s_seat_count) := ⟨rfl, rfl, rfl, by decide +kernel, rfl, by decide +kernel, by decide +kernel⟩
theorem ok_seat_count (T : Tp K mg) : FnOk P w K mg base CX0 1 (fA K "seat_count") (fD K "seat_count") ["carrier"] (sp_seat_count K) := by
  refine T.d_seat_count.F.ok sc_seat_count (fun vs H Q E h => ?_) (fun cdv A outer s H vs Q E hr h => ?_)
  · obtain ⟨_, _, _, rfl, _⟩ := h
    rfl
  · obtain ⟨_, W, n, rfl, ⟨a, vs, rfl, hS, hF⟩, C, q⟩ := h
    have hl : vs.length = 2 ^ n := by rw [hF.1, C.len]
    obtain ⟨m1, m2⟩ := sizes_at n C.lo C.hi
    refine ⟨_, PSs.nox ((pss_one (ps_ret (pe_op op_add (pe_bm PySem.F.plainAttrs_tuple PySem.F.slot_tuple_index PySem.F.type_tuple_index mt_tupix (pe_glob (v := .ref (fA K "SIZES")) (by rfl) T.t_SIZES.1 rfl) (pa_cons (pe_callB call_len_seq (by rfl) T.z_len PySem.boot_len (pa_cons (pv 0) pa_nil)) pa_nil)) pe_int)))), ?_⟩
    have hz : SqT K H (fA K "SIZES") ([(2 : Int), 4, 8, 16, 32].map V.int) := T.t_SIZES.2.1 H
    refine ⟨.inr (.inl ⟨rfl, T.t_SIZES.2.2⟩), _, rfl, a, _, rfl, .inr hS, _, [(2 : Int), 4, 8, 16, 32], _, rfl, rfl, hz, ?_, _, _, rfl, rfl, ?_⟩
    · show ((vs.length : Nat) : Int) ∈ _
      rw [hl]
      exact m1
    · show Q (.int ((([(2 : Int), 4, 8, 16, 32].idxOf ((vs.length : Nat) : Int) : Nat) : Int) + 1)) H
      rw [hl]
      have e : (([(2 : Int), 4, 8, 16, 32].idxOf ((2 ^ n : Nat) : Int) : Nat) : Int) + 1 = (n : Int) := by omega
      rw [e]
      exact q
end
end G7
end

section
set_option Elab.async false
set_option linter.all false
set_option maxRecDepth 100000
set_option maxHeartbeats 4000000
namespace G7
open PySem PySem.Spec PyProof.Rows L2
theorem ixN_nat {n j : Nat} (h : j < n) : ixN n (j : Int) = some j := by
  unfold ixN
  rw [if_pos (Int.natCast_nonneg j), if_pos (by omega), Int.toNat_natCast]
abbrev upTo (n : Nat) : List V := (List.range n).map fun (i : Nat) => V.int (i : Int)
theorem upTo_at {n i : Nat} {x : V} (h : (upTo n)[i]? = some x) : i < n ∧ x = .int (i : Int) := by
  rw [List.getElem?_map] at h
  obtain ⟨j, e, ex⟩ := Option.map_eq_some_iff.mp h
  obtain ⟨hi, ej⟩ := List.getElem?_eq_some_iff.mp e
  rw [List.length_range] at hi
  rw [List.getElem_range] at ej
  subst ej
  exact ⟨hi, ex.symm⟩
theorem rg_upTo (n : Nat) : rgV 0 (n : Int) = upTo n := by
  unfold rgV upTo
  rw [show ((n : Int) - 0).toNat = n by omega]
  exact List.map_congr_left fun i _ => by rw [Int.zero_add]
theorem upTo_len (n : Nat) : (upTo n).length = n := by rw [List.length_map, List.length_range]
section
variable {P : Program} {w : World} {K : PySem.W.Frag} {mg : Str → Option Value} {base : Heap}
theorem zeros_fs {H : Hp} {a : Addr} (h : SqT K H a [.int 0, .int 1]) (n : Nat) : IsFs K H (List.replicate n (.ref a)) (List.replicate n (0, 1)) := by
  refine ⟨by rw [List.length_replicate, List.length_replicate], fun i hi => ?_⟩
  rw [List.length_replicate] at hi
  refine ⟨.ref a, by rw [List.getElem?_replicate, if_pos hi], ?_⟩
  have e : (List.replicate n ((0, 1) : Q2)).getD i (0, 1) = (0, 1) := by
    rw [List.getD_eq_getElem?_getD, List.getElem?_replicate, if_pos hi]
    rfl
  rw [e]
  exact ⟨a, rfl, h⟩
def sp_counts_in (K : PySem.W.Frag) : Sp := fun vs H Q _ => ∃ (c : V) (l : Addr) (W : List Q2) (n : Nat), vs = [c, .ref l] ∧ IsC K H c W ∧ Car n W ∧ SqL K H l (upTo (2 ^ n)) ∧ ∀ H' r, Same H H' → IsR K H' r (counts n W) → Q (.ref r) H'
abbrev N_counts_in : List Str := ["carrier", "standings", "found", "standing", "many"]
theorem sc_counts_in : FnScope N_counts_in ["carrier", "standings"] (defScope s_counts_in) := ⟨rfl, rfl, rfl, by decide +kernel, rfl, by decide +kernel, by decide +kernel⟩
theorem ok_counts_in (T : Tp K mg) : FnOk P w K mg base CX0 5 (fA K "counts_in") (fD K "counts_in") ["carrier", "standings"] (sp_counts_in K) := by
  refine T.d_counts_in.F.ok sc_counts_in (fun vs H Q E h => ?_) (fun cdv A outer s H vs Q E hr h => ?_)
  · obtain ⟨_, _, _, _, rfl, _⟩ := h
    rfl
  · obtain ⟨c, l, W, n, rfl, hC, C, hL, q⟩ := h
    refine ⟨_, PSs.nox ((pss_cons (ps_set (i := 2) sc_counts_in.nd rfl (Or.inl rfl) (pe_op op_rep (pe_lst (pa_cons (pe_glob (v := .ref (fA K "ZERO")) (by rfl) T.t_ZERO.1 rfl) pa_nil)) (pe_op op_add (pe_call (ok_seat_count T) (hr.mono (by decide)) (by rfl) T.d_seat_count.g T.d_seat_count.F.kp T.b_seat_count .nil pass0 (pa_cons (pv 0) pa_nil)) pe_int)))
      (pss_cons (ps_for PassesOwn.never rfl (pi_list (pv 1)) (pg_name (i := 3) sc_counts_in.nd rfl (Or.inl rfl)) (pss_cons (ps_set (i := 4) sc_counts_in.nd rfl (Or.inl rfl) (pe_call (ok_bits_in T) (hr.mono (by decide)) (by rfl) T.d_bits_in.g T.d_bits_in.F.kp T.b_bits_in .nil pass0 (pa_cons (pv 3) pa_nil)))
      (pss_one (ps_asg (pe_call (ok_plus T) (hr.mono (by decide)) (by rfl) T.d_plus.g T.d_plus.F.kp T.b_plus .nil pass0 (pa_cons (pe_ix ix_list (pv 2) (pv 4) (fun _ _ => rfl)) (pa_cons (pe_ix ix_tup (pv 0) (pv 3) (fun _ _ => rfl)) pa_nil))) (pg_sub (pv 2) (pv 4) set_list)))))
      (pss_one (ps_ret (pv 2)))))), ?_⟩
    have n5 := C.hi
    refine ⟨by show 1 ≤ sizeLine; decide, fun z hz => ?_⟩
    refine ⟨_, rfl, c, W, n, rfl, hC.mono (same_new hz), C, _, _, rfl, rfl, z, _, _, rfl, rfl, upd_same, by omega, by omega, ?_, fun F hF => ?_⟩
    · show 1 * ((n : Int) + 1).toNat ≤ sizeLine
      exact Nat.le_trans (by omega) (show 10 ≤ sizeLine by decide)
    have s0 : Same H (upd (upd H z (.lst [.ref (fA K "ZERO")])) F (.lst (List.replicate ((n : Int) + 1).toNat [.ref (fA K "ZERO")]).flatten)) := (same_new hz).trans (same_new hF)
    have hFn : H F = none := (same_new hz).free hF
    refine ⟨.ref l, rfl, l, rfl, ⟨_, Same.seq s0 hL⟩, for_list (K := K) (a := l) (xs := upTo (2 ^ n)) (fun i σ H' => ∃ y3 y4 vs, σ = [some c, some (.ref l), some (.ref F), y3, y4] ∧ Same H H' ∧ H' F = some (.lst vs) ∧ IsFs K H' vs (accW W n i))
      ⟨none, none, _, rfl, s0, upd_same, ?_⟩ (fun i σ H' _ p => ?_) ?_ ?_⟩
    · have e : (List.replicate ((n : Int) + 1).toNat [V.ref (fA K "ZERO")]).flatten = List.replicate (n + 1) (.ref (fA K "ZERO")) := by
        rw [show ((n : Int) + 1).toNat = n + 1 by omega, List.flatten_replicate_singleton]
      rw [e, accW_zero]
      exact zeros_fs (T.t_ZERO.2.1 _) (n + 1)
    · obtain ⟨_, _, _, _, s', _⟩ := p
      exact Same.seq s' hL
    · rintro i x σ H' hx ⟨y3, y4, vs, rfl, s', eF, fs⟩
      obtain ⟨hi, rfl⟩ := upTo_at hx
      have i32 : i < 32 := Nat.lt_of_lt_of_le hi (pow32 n5)
      have hb : bitsN i ≤ n := bitsN_le n (by omega) C.lo i hi
      have hlen : vs.length = n + 1 := by rw [fs.1, accW_len]
      obtain ⟨v1, e1, f1⟩ := fs.2 (bitsN i) (by rw [accW_len]; omega)
      obtain ⟨a, cs, rfl, hS, hF2⟩ := hC.mono s'
      obtain ⟨v2, e2, f2⟩ := hF2.2 i (by rw [C.len]; exact hi)
      refine ⟨_, rfl, i, rfl, by omega, ?_⟩
      refine ⟨_, rfl, _, rfl, F, vs, _, v1, rfl, rfl, SqL.of eF, atI_nat e1, _, rfl, _, rfl, a, cs, _, v2, rfl, rfl, hS, atI_nat e2, v1, v2, _, _, 1111, 110, rfl, f1, f2, accW_bd_all C (by omega) hb, (C.at_ (by rw [C.len]; exact hi)).bd, by omega, fun H3 v s3 f3 => ?_⟩
      have eF3 := s3 F _ eF
      have t3 : Tx H' (upd H3 F (.lst (vs.set (bitsN i) v))) := (Tx.of s3).trans (Tx.lst eF3)
      refine ⟨_, rfl, _, rfl, F, vs, _, bitsN i, rfl, rfl, eF3, ixN_nat (by omega), ?_⟩
      refine ⟨some (.int (i : Int)), some (.int (bitsN i : Nat)), vs.set (bitsN i) v, rfl, Same.mut (s'.trans s3) hFn, upd_same, ?_⟩
      rw [accW_succ]
      exact (fs.tx t3).set (f3.tx (Tx.lst eF3)) (bitsN i)
    · rintro σ H' ⟨y3, y4, vs, rfl, s', eF, fs⟩
      rw [upTo_len] at fs
      exact ⟨_, rfl, q H' F s' ⟨vs, eF, fs⟩⟩
def sp_counts_by (K : PySem.W.Frag) : Sp := fun vs H Q _ => ∃ (c : V) (W : List Q2) (n : Nat), vs = [c] ∧ IsC K H c W ∧ Car n W ∧ ∀ H' r, Same H H' → IsR K H' r (counts n W) → Q (.ref r) H'
abbrev N_counts_by : List Str := ["carrier"]
theorem sc_counts_by : FnScope N_counts_by ["carrier"] (defScope s_counts_by) := ⟨rfl, rfl, rfl, by decide +kernel, rfl, by decide +kernel, by decide +kernel⟩
theorem ok_counts_by (T : Tp K mg) : FnOk P w K mg base CX0 6 (fA K "counts_by") (fD K "counts_by") ["carrier"] (sp_counts_by K) := by
  refine T.d_counts_by.F.ok sc_counts_by (fun vs H Q E h => ?_) (fun cdv A outer s H vs Q E hr h => ?_)
  · obtain ⟨_, _, _, rfl, _⟩ := h
    rfl
  · obtain ⟨_, W, n, rfl, ⟨a, cs, rfl, hS, hF⟩, C, q⟩ := h
    refine ⟨_, PSs.nox ((pss_one (ps_ret (pe_call (ok_counts_in T) (hr.mono (by decide)) (by rfl) T.d_counts_in.g T.d_counts_in.F.kp T.b_counts_in .nil pass0 (pa_cons (pv 0) (pa_cons (pe_listRg rfl (by rfl) T.z_list (prg_1 (by rfl) T.z_range (pe_callB call_len_seq (by rfl) T.z_len PySem.boot_len (pa_cons (pv 0) pa_nil)))) pa_nil)))))), ?_⟩
    have l32 : cs.length ≤ 32 := by rw [hF.1]; exact C.len32
    refine ⟨_, rfl, _, rfl, a, _, rfl, .inr hS, (cs.length : Int), rfl, ?_, fun l hl => ?_⟩
    · exact RgOk.of_le (by omega) (by omega) (by omega) (by omega)
    · refine ⟨.ref a, l, W, n, rfl, ⟨a, cs, rfl, Same.tup (same_new hl) hS, hF.tx (Tx.of (same_new hl))⟩, C, ?_, fun H' r s' hr' => q H' r ((same_new hl).trans s') hr'⟩
      rw [rg_upTo, hF.1, C.len]
      exact SqL.of upd_same
end
end G7
end

section
set_option Elab.async false
set_option linter.all false
set_option maxRecDepth 100000
set_option maxHeartbeats 4000000
namespace G7
open PySem PySem.Spec PyProof.Rows L2
/-- a pair or None -/
def IsP (K : PySem.W.Frag) (H : Hp) (v : V) : Option (Nat × Nat) → Prop
  | none => v = .non
  | some p => ∃ a, v = .ref a ∧ SqT K H a [.int (p.1 : Int), .int (p.2 : Int)]
theorem IsP.tx {K : PySem.W.Frag} {H H' : Hp} {v : V} {o : Option (Nat × Nat)} (h : IsP K H v o) (s : Tx H H') : IsP K H' v o := by
  cases o with
  | none => exact h
  | some p =>
    obtain ⟨a, e, t⟩ := h
    exact ⟨a, e, s.sq t⟩
theorem IsP.none_iff {K : PySem.W.Frag} {H : Hp} {v : V} {o : Option (Nat × Nat)} (h : IsP K H v o) : decide (v = .non) = o.isNone := by
  cases o with
  | none =>
    rw [decide_eq_true (show v = .non from h)]
    rfl
  | some p =>
    obtain ⟨a, rfl, _⟩ := h
    rw [decide_eq_false (by intro z; cases z)]
    rfl
section
variable {P : Program} {w : World} {K : PySem.W.Frag} {mg : Str → Option Value} {base : Heap}
theorem IsFs.get {H : Hp} {vs : List V} {qs : List Q2} (h : IsFs K H vs qs) {i : Nat} (hi : i < qs.length) : ∃ v, atI vs (i : Int) = some v ∧ IsF K H v (qs.getD i (0, 1)) := by
  obtain ⟨v, e, f⟩ := h.2 i hi
  exact ⟨v, atI_nat e, f⟩
def sp_bars (K : PySem.W.Frag) : Sp := fun vs H Q _ => ∃ (r : Addr) (R : List Q2) (n k i j : Nat), vs = [.ref r, .int (k : Int), .int (i : Int), .int (j : Int)] ∧ IsR K H r R ∧ Row n R ∧ i < k ∧ k < j ∧ j ≤ n ∧ ∀ H', Same H H' → Q (.bl (barsF R k i j)) H'
abbrev N_bars : List Str := ["row", "number", "low", "high", "mine"]
theorem sc_bars : FnScope N_bars ["row", "number", "low", "high"] (defScope s_bars) := ⟨rfl, rfl, rfl, by decide +kernel, rfl, by decide +kernel, by decide +kernel⟩
theorem ok_bars (T : Tp K mg) : FnOk P w K mg base CX0 5 (fA K "bars") (fD K "bars") ["row", "number", "low", "high"] (sp_bars K) := by
  refine T.d_bars.F.ok sc_bars (fun vs H Q E h => ?_) (fun cdv A outer s H vs Q E hr h => ?_)
  · obtain ⟨_, _, _, _, _, _, rfl, _⟩ := h
    rfl
  · obtain ⟨r, R, n, k, i, j, rfl, hR, hW, ik, kj, jn, q⟩ := h
    refine ⟨_, PSs.nox ((pss_cons (ps_set (i := 4) sc_bars.nd rfl (Or.inl rfl) (pe_call (ok_power T) (hr.mono (by decide)) (by rfl) T.d_power.g T.d_power.F.kp T.b_power .nil pass0 (pa_cons (pe_ix ix_list (pv 0) (pv 1) (fun _ _ => rfl)) (pa_cons (pe_op op_sub (pv 3) (pv 2)) pa_nil))))
      (pss_one (ps_ret (pe_call (ok_is_below T) (hr.mono (by decide)) (by rfl) T.d_is_below.g T.d_is_below.F.kp T.b_is_below .nil pass0 (pa_cons (pv 4) (pa_cons (pe_call (ok_times T) (hr.mono (by decide)) (by rfl) T.d_times.g T.d_times.F.kp T.b_times .nil pass0 (pa_cons (pe_call (ok_power T) (hr.mono (by decide)) (by rfl) T.d_power.g T.d_power.F.kp T.b_power .nil pass0 (pa_cons (pe_ix ix_list (pv 0) (pv 2) (fun _ _ => rfl)) (pa_cons (pe_op op_sub (pv 3) (pv 1)) pa_nil))) (pa_cons (pe_call (ok_power T) (hr.mono (by decide)) (by rfl) T.d_power.g T.d_power.F.kp T.b_power .nil pass0 (pa_cons (pe_ix ix_list (pv 0) (pv 3) (fun _ _ => rfl)) (pa_cons (pe_op op_sub (pv 1) (pv 2)) pa_nil))) pa_nil))) pa_nil))))))), ?_⟩
    have n5 := hW.hi
    have ej : (j : Int) - (i : Int) = ((j - i : Nat) : Int) := by omega
    have ek : (j : Int) - (k : Int) = ((j - k : Nat) : Int) := by omega
    have ei : (k : Int) - (i : Int) = ((k - i : Nat) : Int) := by omega
    obtain ⟨vs, eR, fR⟩ := hR
    obtain ⟨v1, e1, f1⟩ := fR.get (i := k) (by rw [hW.len]; omega)
    refine ⟨_, rfl, _, rfl, r, vs, _, v1, rfl, rfl, SqL.of eR, e1, _, rfl, _, rfl, _, _, rfl, rfl, v1, _, 1111, j - i, ?_, f1, hW.bd k (by omega), by decide, by decide, by omega, fun H1 mine s1 m1 => ?_⟩
    · show [v1, V.int ((j : Int) - (i : Int))] = _
      rw [ej]
    have eR1 := s1 r _ eR
    have fR1 := fR.tx (Tx.of s1)
    obtain ⟨v2, e2, f2⟩ := fR1.get (i := i) (by rw [hW.len]; omega)
    refine ⟨_, rfl, _, rfl, _, rfl, r, vs, _, v2, rfl, rfl, SqL.of eR1, e2, _, rfl, _, rfl, _, _, rfl, rfl, v2, _, 1111, j - k, ?_, f2, hW.bd i (by omega), by decide, by decide, by omega, fun H2 a s2 m2 => ?_⟩
    · show [v2, V.int ((j : Int) - (k : Int))] = _
      rw [ek]
    have eR2 := s2 r _ eR1
    have fR2 := fR1.tx (Tx.of s2)
    obtain ⟨v3, e3, f3⟩ := fR2.get (i := j) (by rw [hW.len]; omega)
    refine ⟨_, rfl, _, rfl, r, vs, _, v3, rfl, rfl, SqL.of eR2, e3, _, rfl, _, rfl, _, _, rfl, rfl, v3, _, 1111, k - i, ?_, f3, hW.bd j jn, by decide, by decide, by omega, fun H3 b s3 m3 => ?_⟩
    · show [v3, V.int ((k : Int) - (i : Int))] = _
      rw [ei]
    have b2 := powF_bd (hW.bd i (by omega)) (by decide) (j - k)
    have b3 := powF_bd (hW.bd j jn) (by decide) (k - i)
    have b1 := powF_bd (hW.bd k (by omega)) (by decide) (j - i)
    refine ⟨a, b, _, _, _, _, rfl, m2.mono s3, m3, b2, b3, by omega, fun H4 c s4 m4 => ?_⟩
    refine ⟨mine, c, _, _, _, _, rfl, m1.mono ((s2.trans s3).trans s4), m4, b1, mulF_bd b2 b3, by omega, ?_⟩
    exact q H4 (((s1.trans s2).trans s3).trans s4)
def sp_barring (K : PySem.W.Frag) : Sp := fun vs H Q _ => ∃ (r : Addr) (R : List Q2) (n k : Nat), vs = [.ref r, .int (k : Int)] ∧ IsR K H r R ∧ Row n R ∧ k ≤ n ∧ ∀ H' v, Same H H' → IsP K H' v (barF R k) → Q v H'
abbrev N_barring : List Str := ["row", "number", "low", "high"]
theorem sc_barring : FnScope N_barring ["row", "number"] (defScope s_barring) := ⟨rfl, rfl, rfl, by decide +kernel, rfl, by decide +kernel, by decide +kernel⟩
theorem ok_barring (T : Tp K mg) : FnOk P w K mg base CX0 6 (fA K "barring") (fD K "barring") ["row", "number"] (sp_barring K) := by
  refine T.d_barring.F.ok sc_barring (fun vs H Q E h => ?_) (fun cdv A outer s H vs Q E hr h => ?_)
  · obtain ⟨_, _, _, _, rfl, _⟩ := h
    rfl
  · obtain ⟨r, R, n, k, rfl, hR, hW, kn, q⟩ := h
    refine ⟨_, PSs.nox ((pss_cons (ps_for PassesOwn.never rfl (pi_range1 (by rfl) T.z_range (pa_cons (pv 1) pa_nil)) (pg_name (i := 2) sc_barring.nd rfl (Or.inl rfl)) (pss_one (ps_for PassesOwn.never rfl (pi_range2 (by rfl) T.z_range (pa_cons (pe_op op_add (pv 1) pe_int) (pa_cons (pe_callB call_len_seq (by rfl) T.z_len PySem.boot_len (pa_cons (pv 0) pa_nil)) pa_nil))) (pg_name (i := 3) sc_barring.nd rfl (Or.inl rfl)) (pss_one (ps_if (pt_val (pe_call (ok_bars T) (hr.mono (by decide)) (by rfl) T.d_bars.g T.d_bars.F.kp T.b_bars .nil pass0 (pa_cons (pv 0) (pa_cons (pv 1) (pa_cons (pv 2) (pa_cons (pv 3) pa_nil)))))) (pss_one (ps_ret (pe_tup (pa_cons (pv 2) (pa_cons (pv 3) pa_nil))))) pss_nil)))))
      (pss_one (ps_ret pe_non)))), ?_⟩
    have n5 := hW.hi
    have hl := hW.len
    refine ⟨_, rfl, (k : Int), rfl, by omega, by omega, for_range (lo := 0) (fun i σ H' => ∃ y2 y3, σ = [some (.ref r), some (.int (k : Int)), y2, y3] ∧ Same H H' ∧ ∀ p ∈ ahead R.length k i 0, barsF R k p.1 p.2 = false) ⟨none, none, rfl, Same.refl _, fun p hp => by cases hp⟩ ?_ ?_⟩
    · rintro i σ H' hi ⟨y2, y3, rfl, s', no⟩
      rw [Int.toNat_natCast] at hi
      have e0 : (0 : Int) + (i : Int) = (i : Int) := Int.zero_add _
      obtain ⟨vs, eR, fR⟩ := hR.mono s'
      have hvl : vs.length = n + 1 := by rw [fR.1, hl]
      show tFor _ _ _ _ [some (.ref r), some (.int (k : Int)), some (.int ((0 : Int) + (i : Int))), y3] H'
      rw [e0]
      refine ⟨_, rfl, _, _, rfl, rfl, _, rfl, r, vs, rfl, .inl (SqL.of eR), (k : Int) + 1, (vs.length : Int), rfl, by omega, for_range (lo := (k : Int) + 1) (fun d σ H2 => ∃ y3, σ = [some (.ref r), some (.int (k : Int)), some (.int (i : Int)), y3] ∧ Same H H2 ∧ ∀ p ∈ ahead R.length k i d, barsF R k p.1 p.2 = false) ⟨y3, rfl, s', no⟩ ?_ ?_⟩
      · rintro d σ H2 hd ⟨y3, rfl, s2, no2⟩
        have hdl : d < R.length - (k + 1) := by omega
        have ed : (k : Int) + 1 + (d : Int) = ((k + 1 + d : Nat) : Int) := by omega
        show tIfS _ _ _ _ [some (.ref r), some (.int (k : Int)), some (.int (i : Int)), some (.int ((k : Int) + 1 + (d : Int)))] H2
        rw [ed]
        refine ⟨_, rfl, _, rfl, _, rfl, _, rfl, r, R, n, k, i, k + 1 + d, rfl, hR.mono s2, hW, hi, by omega, by omega, fun H3 s3 => ⟨_, rfl, ?_⟩⟩
        cases e : barsF R k i (k + 1 + d) with
        | true =>
          refine iteT ⟨_, rfl, _, rfl, by show 2 ≤ sizeLine; decide, fun p hp => ?_⟩
          refine q _ _ ((s2.trans s3).trans (same_new hp)) ?_
          rw [barF_some hi hdl no2 e]
          exact ⟨p, rfl, SqT.of upd_same⟩
        | false =>
          refine iteF ⟨some (.int ((k + 1 + d : Nat) : Int)), rfl, s2.trans s3, fun p hp => ?_⟩
          rw [ahead_next] at hp
          rcases List.mem_append.mp hp with hp | hp
          · exact no2 p hp
          · rw [List.mem_singleton.mp hp]
            exact e
      · rintro σ H2 ⟨y3, rfl, s2, no2⟩
        refine ⟨some (.int (i : Int)), y3, rfl, s2, ?_⟩
        rw [show ((vs.length : Int) - ((k : Int) + 1)).toNat = R.length - (k + 1) by omega, ahead_row] at no2
        exact no2
    · rintro σ H' ⟨y2, y3, rfl, s', no⟩
      rw [Int.toNat_natCast] at no
      refine q _ _ s' ?_
      rw [barF_none no]
      rfl
end
end G7
end

section
set_option Elab.async false
set_option linter.all false
set_option maxRecDepth 100000
set_option maxHeartbeats 4000000
namespace G7
open PySem PySem.Spec PyProof.Rows L2
theorem pe_never {X : Cx} {e : Expr} : PE X e (fun _ _ _ => False) := ⟨fun _ _ _ _ _ _ h => h.elim⟩
def dueV (n : Nat) (R : List Q2) : List V := (dueN n R).map fun (k : Nat) => V.int (k : Int)
section
variable {P : Program} {w : World} {K : PySem.W.Frag} {mg : Str → Option Value} {base : Heap}
def sp_ever_likeliest (K : PySem.W.Frag) : Sp := fun vs H Q _ => ∃ (c : V) (W : List Q2) (n : Nat), vs = [c] ∧ IsC K H c W ∧ Car n W ∧ ∀ H' a, Same H H' → SqT K H' a (dueV n (counts n W)) → Q (.ref a) H'
abbrev N_ever_likeliest : List Str := ["carrier", "row", "number"]
theorem sc_ever_likeliest : FnScope N_ever_likeliest ["carrier"] (defScope s_ever_likeliest) := ⟨rfl, rfl, rfl, by decide +kernel, rfl, by decide +kernel, by decide +kernel⟩
theorem ok_ever_likeliest (T : Tp K mg) : FnOk P w K mg base CX0 7 (fA K "ever_likeliest") (fD K "ever_likeliest") ["carrier"] (sp_ever_likeliest K) := by
  refine T.d_ever_likeliest.F.ok sc_ever_likeliest (fun vs H Q E h => ?_) (fun cdv A outer s H vs Q E hr h => ?_)
  · obtain ⟨_, _, _, rfl, _⟩ := h
    rfl
  · obtain ⟨c, W, n, rfl, hC, C, q⟩ := h
    refine ⟨_, PSs.nox ((pss_cons (ps_expr (pe_call (ok_check_carrier T) (hr.mono (by decide)) (by rfl) T.d_check_carrier.g T.d_check_carrier.F.kp T.b_check_carrier .nil pass0 (pa_cons (pv 0) pa_nil)))
      (pss_cons (ps_set (i := 1) sc_ever_likeliest.nd rfl (Or.inr rfl) (pe_call (ok_counts_by T) (hr.mono (by decide)) (by rfl) T.d_counts_by.g T.d_counts_by.F.kp T.b_counts_by .nil pass0 (pa_cons (pv 0) pa_nil)))
      (pss_one (ps_ret (pe_callTy call_tuple_of (by rfl) T.z_tuple (by decide +kernel) (pa_cons (pe_lc (own := [("number", 2)]) (g := gName 2) rfl sc_ever_likeliest.nd (pi_range1 (by rfl) T.z_range (pa_cons (pe_callB call_len_seq (by rfl) T.z_len PySem.boot_len (pa_cons (pv 1) pa_nil)) pa_nil)) (blkOk_by (N := N_ever_likeliest) (sc := defScope s_ever_likeliest) (by decide +kernel)) (fun _ _ _ _ _ => pg_name (i := 2) sc_ever_likeliest.nd rfl (Or.inl rfl)) (fun _ _ _ _ _ => (pts_one (pt_cmpR op_isN (pe_call (ok_barring T) (hr.mono (by decide)) (by rfl) T.d_barring.g T.d_barring.F.kp T.b_barring .nil pass0 (pa_cons (pv 1) (pa_cons (pv 2) pa_nil))) pe_non (nomark _)))) (fun _ _ _ _ _ => (pv 2))) pa_nil))))))), ?_⟩
    refine ⟨_, rfl, c, W, n, rfl, hC, C, fun H1 s1 => ?_⟩
    refine ⟨_, rfl, c, W, n, rfl, hC.mono s1, C, fun H2 r s2 hR => ?_⟩
    have hW := C.row
    have n5 := C.hi
    dsimp only [gName]
    refine rt1 (cb1 (lcRf (n := n + 1) (fun k => (barF (counts n W) k).isNone) (fun k => .int (k : Int)) ?_ (by omega) (fun _ => rfl) ?_ ?_ ?_))
    · intro H3 e3 R k
      obtain ⟨vs, eR, fR⟩ := hR.mono e3
      refine ⟨_, rfl, r, vs, rfl, .inl (SqL.of eR), ?_⟩
      have hl : vs.length = n + 1 := by rw [fR.1, hW.len]
      show R [.int ((vs.length : Nat) : Int)] H3
      rw [hl]
      exact k
    · intro i hi H3 e3 R k
      refine ⟨_, rfl, _, rfl, r, counts n W, n, i, rfl, hR.mono e3, hW, by omega, fun H5 v s5 pv => ⟨rfl, _, rfl, ?_⟩⟩
      rw [pv.none_iff]
      exact k H5 s5
    · intro i hi hf H3 e3 R k
      exact ⟨_, rfl, k H3 (Same.refl _)⟩
    · intro p H3 hp e3 hl
      refine ⟨p, _, rfl, .inl ⟨SqL.of hl, fun l hl2 => ?_⟩⟩
      refine q _ l ((s1.trans s2).trans (e3.trans (same_new hl2))) ?_
      exact SqT.of upd_same
def sp_barring_pair (K : PySem.W.Frag) : Sp := fun vs H Q _ => ∃ (c : V) (W : List Q2) (n k : Nat), vs = [c, .int (k : Int)] ∧ IsC K H c W ∧ Car n W ∧ k ≤ n ∧ ∀ H' v, Same H H' → IsP K H' v (barF (counts n W) k) → Q v H'
abbrev N_barring_pair : List Str := ["carrier", "number"]
theorem sc_barring_pair : FnScope N_barring_pair ["carrier", "number"] (defScope s_barring_pair) := ⟨rfl, rfl, rfl, by decide +kernel, rfl, by decide +kernel, by decide +kernel⟩
theorem ok_barring_pair (T : Tp K mg) : FnOk P w K mg base CX0 7 (fA K "barring_pair") (fD K "barring_pair") ["carrier", "number"] (sp_barring_pair K) := by
  refine T.d_barring_pair.F.ok sc_barring_pair (fun vs H Q E h => ?_) (fun cdv A outer s H vs Q E hr h => ?_)
  · obtain ⟨_, _, _, _, rfl, _⟩ := h
    rfl
  · obtain ⟨c, W, n, k, rfl, hC, C, kn, q⟩ := h
    refine ⟨_, PSs.nox ((pss_cons (ps_expr (pe_call (ok_check_carrier T) (hr.mono (by decide)) (by rfl) T.d_check_carrier.g T.d_check_carrier.F.kp T.b_check_carrier .nil pass0 (pa_cons (pv 0) pa_nil)))
      (pss_cons (ps_if (pt_not (pt_val (pe_call (ok_is_between T) (hr.mono (by decide)) (by rfl) T.d_is_between.g T.d_is_between.F.kp T.b_is_between .nil pass0 (pa_cons (pv 1) (pa_cons pe_int (pa_cons (pe_call (ok_seat_count T) (hr.mono (by decide)) (by rfl) T.d_seat_count.g T.d_seat_count.F.kp T.b_seat_count .nil pass0 (pa_cons (pv 0) pa_nil)) pa_nil)))))) (pss_one ps_never) pss_nil)
      (pss_one (ps_ret (pe_call (ok_barring T) (hr.mono (by decide)) (by rfl) T.d_barring.g T.d_barring.F.kp T.b_barring .nil pass0 (pa_cons (pe_call (ok_counts_by T) (hr.mono (by decide)) (by rfl) T.d_counts_by.g T.d_counts_by.F.kp T.b_counts_by .nil pass0 (pa_cons (pv 0) pa_nil)) (pa_cons (pv 1) pa_nil)))))))), ?_⟩
    refine ⟨_, rfl, c, W, n, rfl, hC, C, fun H1 s1 => ?_⟩
    refine ⟨_, rfl, _, rfl, c, W, n, rfl, hC.mono s1, C, (k : Int), 0, (n : Int), rfl, true, ?_, iteF ?_⟩
    · rw [decide_eq_true (show (0 : Int) ≤ (k : Int) by omega), decide_eq_true (show (k : Int) ≤ (n : Int) by omega)]
      rfl
    · exact ⟨_, rfl, c, W, n, rfl, hC.mono s1, C, fun H2 r s2 hR => ⟨_, rfl, r, counts n W, n, k, rfl, hR, C.row, kn, fun H3 v s3 pv => q H3 v ((s1.trans s2).trans s3) pv⟩⟩
/-! ### certify_likeliest -/
def wordOf (o : Option (Nat × Nat)) : Str := if o.isNone then "likeliest" else "never likeliest"
def paperOf : Option (Nat × Nat) → List Int
  | none => []
  | some p => [(p.1 : Int), (p.2 : Int)]
/-- a claim on a number -/
def IsCl (K : PySem.W.Frag) (H : Hp) (v : V) (wd : Str) (W : List Q2) (k : Nat) : Prop := ∃ a c, v = .ref a ∧ SqT K H a [.str wd, c, .int (k : Int)] ∧ IsC K H c W
/-- a paper of ints -/
def IsI (K : PySem.W.Frag) (H : Hp) (v : V) (ns : List Int) : Prop := ∃ a, v = .ref a ∧ SqT K H a (ns.map V.int)
theorem IsCl.tx {K : PySem.W.Frag} {H H' : Hp} {v : V} {wd : Str} {W : List Q2} {k : Nat} (h : IsCl K H v wd W k) (s : Tx H H') : IsCl K H' v wd W k := by
  obtain ⟨a, c, e, t, f⟩ := h
  exact ⟨a, c, e, s.sq t, f.tx s⟩
theorem IsI.tx {K : PySem.W.Frag} {H H' : Hp} {v : V} {ns : List Int} (h : IsI K H v ns) (s : Tx H H') : IsI K H' v ns := by
  obtain ⟨a, e, t⟩ := h
  exact ⟨a, e, s.sq t⟩
def sp_certify_likeliest (K : PySem.W.Frag) : Sp := fun vs H Q _ => ∃ (c : V) (W : List Q2) (n k : Nat), vs = [c, .int (k : Int)] ∧ IsC K H c W ∧ Car n W ∧ k ≤ n ∧
  ∀ H' p x y, Same H H' → SqT K H' p [x, y] → IsCl K H' x (wordOf (barF (counts n W) k)) W k → IsI K H' y (paperOf (barF (counts n W) k)) → Q (.ref p) H'
abbrev N_certify_likeliest : List Str := ["carrier", "number", "pair"]
theorem sc_certify_likeliest : FnScope N_certify_likeliest ["carrier", "number"] (defScope s_certify_likeliest) := ⟨rfl, rfl, rfl, by decide +kernel, rfl, by decide +kernel, by decide +kernel⟩
theorem ok_certify_likeliest (T : Tp K mg) : FnOk P w K mg base CX0 8 (fA K "certify_likeliest") (fD K "certify_likeliest") ["carrier", "number"] (sp_certify_likeliest K) := by
  refine T.d_certify_likeliest.F.ok sc_certify_likeliest (fun vs H Q E h => ?_) (fun cdv A outer s H vs Q E hr h => ?_)
  · obtain ⟨_, _, _, _, rfl, _⟩ := h
    rfl
  · obtain ⟨c, W, n, k, rfl, hC, C, kn, q⟩ := h
    refine ⟨_, PSs.nox ((pss_cons (ps_set (i := 2) sc_certify_likeliest.nd rfl (Or.inl rfl) (pe_call (ok_barring_pair T) (hr.mono (by decide)) (by rfl) T.d_barring_pair.g T.d_barring_pair.F.kp T.b_barring_pair .nil pass0 (pa_cons (pv 0) (pa_cons (pv 1) pa_nil))))
      (pss_cons (ps_if (pt_cmpR op_isN (pv 2) pe_non (nomark _)) (pss_one (ps_ret (pe_tup (pa_cons (pe_tup (pa_cons pe_str (pa_cons (pv 0) (pa_cons (pv 1) pa_nil)))) (pa_cons (pe_tup pa_nil) pa_nil))))) pss_nil)
      (pss_one (ps_ret (pe_tup (pa_cons (pe_tup (pa_cons pe_str (pa_cons (pv 0) (pa_cons (pv 1) pa_nil)))) (pa_cons (pv 2) pa_nil)))))))), ?_⟩
    refine ⟨_, rfl, _, rfl, c, W, n, k, rfl, hC, C, kn, fun H1 v s1 pv => ⟨_, rfl, rfl, _, rfl, ?_⟩⟩
    rw [pv.none_iff]
    cases e : barF (counts n W) k with
    | none =>
      rw [e] at q pv
      refine iteT ⟨_, rfl, _, rfl, by show 3 ≤ sizeLine; decide, fun x hx => ⟨by show 0 ≤ sizeLine; decide, fun y hy => ⟨by show 2 ≤ sizeLine; decide, fun p hp => ?_⟩⟩⟩
      have s4 := (s1.trans (same_new hx)).trans ((same_new hy).trans (same_new (o := .tup [.ref x, .ref y]) hp))
      have ny : x ≠ y := ne_of_none upd_same hy
      have np : x ≠ p := ne_of_none (Eq.trans (upd_ne ny) upd_same) hp
      have np2 : y ≠ p := ne_of_none upd_same hp
      refine q _ p (.ref x) (.ref y) s4 (SqT.of upd_same) ⟨x, c, rfl, SqT.of ?_, hC.mono s4⟩ ⟨y, rfl, SqT.of ?_⟩
      · rw [upd_ne np, upd_ne ny]
        exact upd_same
      · rw [upd_ne np2]
        exact upd_same
    | some pr =>
      rw [e] at q pv
      obtain ⟨b, rfl, hb⟩ := pv
      refine iteF ⟨_, rfl, _, rfl, by show 3 ≤ sizeLine; decide, fun x hx => ⟨_, rfl, by show 2 ≤ sizeLine; decide, fun p hp => ?_⟩⟩
      have s4 := s1.trans ((same_new hx).trans (same_new (o := .tup [.ref x, .ref b]) hp))
      have np : x ≠ p := ne_of_none upd_same hp
      refine q _ p (.ref x) (.ref b) s4 (SqT.of upd_same) ⟨x, c, rfl, SqT.of ?_, hC.mono s4⟩ ⟨b, rfl, Same.tup ((same_new hx).trans (same_new hp)) hb⟩
      rw [upd_ne np]
      exact upd_same
end
end G7
end

section
set_option Elab.async false
set_option linter.all false
set_option maxRecDepth 100000
set_option maxHeartbeats 4000000
/-! values as data -/
namespace G7
open PySem PySem.Spec PyProof.Rows L2
def fracD (q : Q2) : PyData := .tuple [.int (q.1 : Int), .int (q.2 : Int)]
def carD (W : List Q2) : PyData := .tuple (W.map fracD)
def clD (wd : Str) (W : List Q2) (k : Nat) : PyData := .tuple [.str wd, carD W, .int (k : Int)]
def intsD (ns : List Int) : List PyData := ns.map PyData.int
def pairD (p : Nat × Nat) : PyData := .tuple [.int (p.1 : Int), .int (p.2 : Int)]
section
variable {K : PySem.W.Frag} {H : Hp}
theorem dp_frac {v : V} {q : Q2} (h : IsF K H v q) : Dp K H v (fracD q) := by
  obtain ⟨a, rfl, t⟩ := h
  exact .tup t (.cons (.int _) (.cons (.int _) .nil))
theorem dp_fracs : ∀ {vs : List V} {qs : List Q2}, vs.length = qs.length → (∀ (i : Nat) v q, vs[i]? = some v → qs[i]? = some q → IsF K H v q) → DpAll K H vs (qs.map fracD)
  | [], [], _, _ => .nil
  | [], _ :: _, h, _ => by cases h
  | _ :: _, [], h, _ => by cases h
  | v :: vs, q :: qs, h, f => .cons (dp_frac (f 0 v q rfl rfl)) (dp_fracs (Nat.succ.inj h) fun i u p e1 e2 => f (i + 1) u p e1 e2)
theorem dp_car {v : V} {W : List Q2} (h : IsC K H v W) : Dp K H v (carD W) := by
  obtain ⟨a, vs, rfl, t, f⟩ := h
  refine .tup t (dp_fracs f.1 fun i u q e1 e2 => ?_)
  obtain ⟨hi, e3⟩ := List.getElem?_eq_some_iff.mp e2
  obtain ⟨x, ex, fx⟩ := f.2 i hi
  rw [e1] at ex
  cases ex
  rw [List.getD_eq_getElem?_getD, e2] at fx
  exact fx
theorem dp_cl {v : V} {wd : Str} {W : List Q2} {k : Nat} (h : IsCl K H v wd W k) : Dp K H v (clD wd W k) := by
  obtain ⟨a, c, rfl, t, f⟩ := h
  exact .tup t (.cons (.str wd) (.cons (dp_car f) (.cons (.int _) .nil)))
theorem dp_ints : ∀ ns : List Int, DpAll K H (ns.map V.int) (intsD ns)
  | [] => .nil
  | n :: ns => .cons (.int n) (dp_ints ns)
theorem dp_paper {v : V} {ns : List Int} (h : IsI K H v ns) : Dp K H v (.tuple (intsD ns)) := by
  obtain ⟨a, rfl, t⟩ := h
  exact .tup t (dp_ints ns)
end
theorem frac_lay (q : Q2) : (fracD q).canLay0 = true := by simp [fracD, PyData.canLay0, PyData.canLayAll0]
theorem fracs_lay : ∀ W : List Q2, PyData.canLayAll0 (W.map fracD) = true
  | [] => by simp [PyData.canLayAll0]
  | q :: W => by simp [PyData.canLayAll0, frac_lay q, fracs_lay W]
theorem frac_depth (q : Q2) : (fracD q).depth = 1 := by simp [fracD, PyData.depth, PyData.depthAll]
theorem fracs_depth : ∀ W : List Q2, PyData.depthAll (W.map fracD) ≤ 1
  | [] => by simp [PyData.depthAll]
  | q :: W => by
    have h1 := fracs_depth W
    have h2 := frac_depth q
    simp only [List.map_cons, PyData.depthAll]
    omega
theorem car_depth (W : List Q2) : (carD W).depth ≤ 2 := by
  have h := fracs_depth W
  simp only [carD, PyData.depth]
  omega
theorem cl_depth (wd : Str) (W : List Q2) (k : Nat) : (clD wd W k).depth ≤ 3 := by
  have h := car_depth W
  simp only [clD, PyData.depth, PyData.depthAll]
  omega
theorem cl_lay {wd : Str} (h : PyData.strOk wd = true) (W : List Q2) (k : Nat) : (clD wd W k).canLay0 = true := by
  have h1 := fracs_lay W
  simp [clD, carD, PyData.canLay0, PyData.canLayAll0, h, h1]
theorem cl_shaped {wd : Str} (h : PyData.strOk wd = true) (W : List Q2) (k : Nat) : SeqAt.shaped (clD wd W k) = true := by
  have d := cl_depth wd W k
  show ((clD wd W k).canLay0 && decide ((clD wd W k).depth ≤ 64)) = true
  rw [cl_lay h, decide_eq_true (by omega)]
  rfl
theorem ints_lay : ∀ ns : List Int, PyData.canLayAll0 (intsD ns) = true
  | [] => by simp [intsD, PyData.canLayAll0]
  | n :: ns => by
    have h := ints_lay ns
    unfold intsD at h
    simp [intsD, PyData.canLayAll0, PyData.canLay0, h]
theorem ints_depth : ∀ ns : List Int, PyData.depthAll (intsD ns) = 0
  | [] => by simp [intsD, PyData.depthAll]
  | n :: ns => by
    have h := ints_depth ns
    unfold intsD at h
    simp [intsD, PyData.depthAll, PyData.depth, h]
theorem paper_shaped (ns : List Int) : SeqAt.shaped (.tuple (intsD ns)) = true := by
  have h1 := ints_lay ns
  have h2 := ints_depth ns
  show (PyData.canLay0 (.tuple (intsD ns)) && decide (PyData.depth (.tuple (intsD ns)) ≤ 64)) = true
  simp [PyData.canLay0, PyData.depth, h1, h2]
theorem ints_eqv : ∀ ns ms : List Int, PyData.eqvAll (intsD ns) (intsD ms) = decide (ns = ms)
  | [], [] => by simp [intsD, PyData.eqvAll]
  | [], m :: ms => by simp [intsD, PyData.eqvAll]
  | n :: ns, [] => by simp [intsD, PyData.eqvAll]
  | n :: ns, m :: ms => by
    have h := ints_eqv ns ms
    unfold intsD at h
    simp only [intsD, List.map_cons, PyData.eqvAll, PyData.eqv, h]
    by_cases e : n = m <;> by_cases e2 : ns = ms <;> simp [e, e2]
theorem paper_eqv (ns ms : List Int) : PyData.eqv (.tuple (intsD ns)) (.tuple (intsD ms)) = decide (ns = ms) := by
  simp only [PyData.eqv]
  exact ints_eqv ns ms
end G7
end

section
set_option Elab.async false
set_option linter.all false
set_option maxRecDepth 100000
set_option maxHeartbeats 4000000
namespace G7
open PySem PySem.Spec PyProof.Rows L2
abbrev wL : Str := "likeliest"
abbrev wN : Str := "never likeliest"
/-- the two words -/
def Wd (wd : Str) : Prop := wd = wL ∨ wd = wN
theorem Wd.ok {wd : Str} (h : Wd wd) : PyData.strOk wd = true := by
  rcases h with rfl | rfl <;> decide +kernel
/-- what a paper shows -/
def acc (wd : Str) (R : List Q2) (k : Nat) (ns : List Int) : Bool := if wd = wL then decide (ns = []) && (barF R k).isNone else match ns with
  | [lo, hi] => decide (0 ≤ lo) && (decide (lo < (k : Int)) && (decide ((k : Int) < hi) && (decide (hi < (R.length : Int)) && barsF R k lo.toNat hi.toNat)))
  | _ => false
section
variable {P : Program} {w : World} {K : PySem.W.Frag} {mg : Str → Option Value} {base : Heap}
theorem IsCl.mono {H H' : Hp} {v : V} {wd : Str} {W : List Q2} {k : Nat} (h : IsCl K H v wd W k) (s : Same H H') : IsCl K H' v wd W k := h.tx (Tx.of s)
theorem IsI.mono {H H' : Hp} {v : V} {ns : List Int} (h : IsI K H v ns) (s : Same H H') : IsI K H' v ns := h.tx (Tx.of s)
/-! ### is_of_one, is_claim -/
def sp_is_of_one (K : PySem.W.Frag) : Sp := fun vs H Q _ => ∃ (x : V) (wd : Str) (W : List Q2) (n k : Nat), vs = [x] ∧ IsCl K H x wd W k ∧ Wd wd ∧ Car n W ∧ k ≤ n ∧ ∀ H', Same H H' → Q (.bl true) H'
abbrev N_is_of_one : List Str := ["claim", "word"]
theorem sc_is_of_one : FnScope N_is_of_one ["claim"] (defScope s_is_of_one) := ⟨rfl, rfl, rfl, by decide +kernel, rfl, by decide +kernel, by decide +kernel⟩
theorem ok_is_of_one (T : Tp K mg) : FnOk P w K mg base CX0 6 (fA K "is_of_one") (fD K "is_of_one") ["claim"] (sp_is_of_one K) := by
  refine T.d_is_of_one.F.ok sc_is_of_one (fun vs H Q E h => ?_) (fun cdv A outer s H vs Q E hr h => ?_)
  · obtain ⟨_, _, _, _, _, rfl, _⟩ := h
    rfl
  · obtain ⟨_, wd, W, n, k, rfl, ⟨a, c, rfl, hS, hC⟩, hw, C, kn, q⟩ := h
    refine ⟨_, PSs.nox ((pss_cons (ps_set (i := 1) sc_is_of_one.nd rfl (Or.inl rfl) (pe_ix ix_tup (pv 0) pe_int (fun _ _ => rfl)))
      (pss_cons (ps_if (PW.pt (pw_or (pt_cmpR op_lt (pe_callB call_len_seq (by rfl) T.z_len PySem.boot_len (pa_cons (pv 0) pa_nil)) pe_int (nomark _)) (pw_or1 (pt_not (pt_val (pe_call (ok_is_carrier T) (hr.mono (by decide)) (by rfl) T.d_is_carrier.g T.d_is_carrier.F.kp T.b_is_carrier .nil pass0 (pa_cons (pe_ix ix_tup (pv 0) pe_int (fun _ _ => rfl)) pa_nil))))))) (pss_one (ps_ret pe_bl)) pss_nil)
      (pss_cons (ps_if (pt_cmpR op_in_seq (pv 1) (pe_tup (pa_cons pe_str (pa_cons pe_str pa_nil))) (by rfl)) (pss_one (ps_ret (pe_and (pe_cmpR op_eq (pe_callB call_len_seq (by rfl) T.z_len PySem.boot_len (pa_cons (pv 0) pa_nil)) pe_int (nomark _)) (pe_one (pe_call (ok_is_between T) (hr.mono (by decide)) (by rfl) T.d_is_between.g T.d_is_between.F.kp T.b_is_between .nil pass0 (pa_cons (pe_ix ix_tup (pv 0) pe_int (fun _ _ => rfl)) (pa_cons pe_int (pa_cons (pe_call (ok_seat_count T) (hr.mono (by decide)) (by rfl) T.d_seat_count.g T.d_seat_count.F.kp T.b_seat_count .nil pass0 (pa_cons (pe_ix ix_tup (pv 0) pe_int (fun _ _ => rfl)) pa_nil)) pa_nil)))))))) pss_nil)
      pss_never)))), ?_⟩
    refine ⟨_, rfl, a, _, _, _, rfl, rfl, hS, rfl, ?_⟩
    refine ⟨_, rfl, a, _, rfl, .inr hS, _, _, rfl, rfl, _, rfl, iteF ?_⟩
    refine ⟨_, rfl, a, _, _, _, rfl, rfl, hS, rfl, c, W, n, rfl, hC, C, fun H1 s1 => ⟨true, rfl, iteF ?_⟩⟩
    refine ⟨_, rfl, by show 2 ≤ sizeLine; decide, fun p hp => ⟨p, _, rfl, .inr (SqT.of upd_same), rfl, rfl, _, rfl, ?_⟩⟩
    have s2 := s1.trans (same_new (o := .tup [.str wL, .str wN]) hp)
    have e : inV (.str wd) [.str wL, .str wN] = true := by
      rcases hw with rfl | rfl <;> decide +kernel
    show if inV (.str wd) [.str wL, .str wN] = true then _ else _
    rw [e]
    refine iteT ⟨_, rfl, a, _, rfl, .inr (Same.tup s2 hS), rfl, true, rfl, iteT ?_⟩
    refine ⟨_, rfl, a, _, _, _, rfl, rfl, Same.tup s2 hS, rfl, _, rfl, a, _, _, _, rfl, rfl, Same.tup s2 hS, rfl, c, W, n, rfl, hC.mono s2, C, (k : Int), 0, (n : Int), rfl, ?_⟩
    rw [decide_eq_true (show (0 : Int) ≤ (k : Int) by omega), decide_eq_true (show (k : Int) ≤ (n : Int) by omega)]
    exact q _ s2
def sp_is_claim (K : PySem.W.Frag) : Sp := fun vs H Q _ => ∃ (x : V) (wd : Str) (W : List Q2) (n k : Nat), vs = [x] ∧ IsCl K H x wd W k ∧ Wd wd ∧ Car n W ∧ k ≤ n ∧ ∀ H', Same H H' → Q (.bl true) H'
abbrev N_is_claim : List Str := ["claim", "word"]
theorem sc_is_claim : FnScope N_is_claim ["claim"] (defScope s_is_claim) := ⟨rfl, rfl, rfl, by decide +kernel, rfl, by decide +kernel, by decide +kernel⟩
theorem ok_is_claim (T : Tp K mg) : FnOk P w K mg base CX0 7 (fA K "is_claim") (fD K "is_claim") ["claim"] (sp_is_claim K) := by
  refine T.d_is_claim.F.ok sc_is_claim (fun vs H Q E h => ?_) (fun cdv A outer s H vs Q E hr h => ?_)
  · obtain ⟨_, _, _, _, _, rfl, _⟩ := h
    rfl
  · obtain ⟨_, wd, W, n, k, rfl, hCl, hw, C, kn, q⟩ := h
    obtain ⟨a, c, rfl, hS, hC⟩ := id hCl
    refine ⟨_, PSs.nox ((pss_cons (ps_if (PW.pt (pw_or (pt_not (pt_val (pe_callB call_isi (by rfl) T.z_isinstance (by decide +kernel) (pa_cons (pv 0) (pa_cons (pe_bltn (v := .ty "tuple") (by rfl) T.z_tuple (by decide +kernel) rfl) pa_nil))))) (pw_or (pt_cmpR (op_eqD hr.units) (pv 0) (pe_tup pa_nil) (nomark _)) (pw_or1 (pt_not (pt_val (pe_callB call_isi (by rfl) T.z_isinstance (by decide +kernel) (pa_cons (pe_ix ix_tup (pv 0) pe_int (fun _ _ => rfl)) (pa_cons (pe_bltn (v := .ty "str") (by rfl) T.z_str (by decide +kernel) rfl) pa_nil))))))))) (pss_one (ps_ret pe_bl)) pss_nil)
      (pss_cons (ps_set (i := 1) sc_is_claim.nd rfl (Or.inl rfl) (pe_ix ix_tup (pv 0) pe_int (fun _ _ => rfl)))
      (pss_cons (ps_if (pt_cmpR op_in_seq (pv 1) (pe_tup (pa_cons pe_str (pa_cons pe_str (pa_cons pe_str (pa_cons pe_str pa_nil))))) (by rfl)) (pss_one (ps_ret pe_never)) pss_nil)
      (pss_cons (ps_if (pt_cmpR op_in_seq (pv 1) (pe_tup (pa_cons pe_str (pa_cons pe_str (pa_cons pe_str (pa_cons pe_str pa_nil))))) (by rfl)) (pss_one (ps_ret (pe_call (ok_is_of_one T) (hr.mono (by decide)) (by rfl) T.d_is_of_one.g T.d_is_of_one.F.kp T.b_is_of_one .nil pass0 (pa_cons (pv 0) pa_nil)))) pss_nil)
      pss_never))))), ?_⟩
    refine ⟨_, rfl, _, _, _, _, true, rfl, .ty "tuple", tyx_tup hS, kit_ty (by decide +kernel), true, rfl, iteF ?_⟩
    refine ⟨_, rfl, by show 0 ≤ sizeLine; decide, fun e he => ?_⟩
    have s1 := same_new (o := .tup []) he
    refine ⟨_, _, dp_cl (hCl.mono s1), .tup (SqT.of upd_same) .nil, cl_shaped hw.ok W k, by decide +kernel, _, rfl, ?_⟩
    have e1 : PyData.eqv (clD wd W k) (.tuple []) = false := by simp [clD, PyData.eqv, PyData.eqvAll]
    show if PyData.eqv (clD wd W k) (.tuple []) = true then _ else _
    rw [e1]
    refine iteF ⟨_, rfl, a, _, _, _, rfl, rfl, Same.tup s1 hS, rfl, _, _, _, _, true, rfl, .ty "str", .base (.str wd), kit_ty (by decide +kernel), true, rfl, iteF ?_⟩
    refine ⟨_, rfl, a, _, _, _, rfl, rfl, Same.tup s1 hS, rfl, ?_⟩
    refine ⟨_, rfl, by show 4 ≤ sizeLine; decide, fun p hp => ⟨p, _, rfl, .inr (SqT.of upd_same), rfl, rfl, _, rfl, ?_⟩⟩
    have e2 : inV (.str wd) [.str "alike", .str "unlike", .str "never fuller", .str "fuller"] = false := by
      rcases hw with rfl | rfl <;> decide +kernel
    show if inV (.str wd) [.str "alike", .str "unlike", .str "never fuller", .str "fuller"] = true then _ else _
    rw [e2]
    refine iteF ⟨_, rfl, by show 4 ≤ sizeLine; decide, fun p2 hp2 => ⟨p2, _, rfl, .inr (SqT.of upd_same), rfl, rfl, _, rfl, ?_⟩⟩
    have e3 : inV (.str wd) [.str wL, .str wN, .str "rises", .str "falls"] = true := by
      rcases hw with rfl | rfl <;> decide +kernel
    show if inV (.str wd) [.str wL, .str wN, .str "rises", .str "falls"] = true then _ else _
    rw [e3]
    have s3 := (s1.trans (same_new (o := .tup [.str "alike", .str "unlike", .str "never fuller", .str "fuller"]) hp)).trans (same_new (o := .tup [.str wL, .str wN, .str "rises", .str "falls"]) hp2)
    exact iteT ⟨_, rfl, _, wd, W, n, k, rfl, hCl.mono s3, hw, C, kn, fun H' s' => q H' (s3.trans s')⟩
end
end G7
end

section
set_option Elab.async false
set_option linter.all false
set_option maxRecDepth 100000
set_option maxHeartbeats 4000000
namespace G7
open PySem PySem.Spec PyProof.Rows L2
section
variable {P : Program} {w : World} {K : PySem.W.Frag} {mg : Str → Option Value} {base : Heap}
def sp_shows (K : PySem.W.Frag) : Sp := fun vs H Q _ => ∃ (x y : V) (wd : Str) (W : List Q2) (n k : Nat) (ns : List Int), vs = [x, y] ∧ IsCl K H x wd W k ∧ IsI K H y ns ∧ ns.length ≤ 1000 ∧ Wd wd ∧ Car n W ∧ k ≤ n ∧ ∀ H', Same H H' → Q (.bl (acc wd (counts n W) k ns)) H'
theorem acc_not2 {wd : Str} (h : wd ≠ wL) {R : List Q2} {k : Nat} {ns : List Int} (l : ns.length ≠ 2) : acc wd R k ns = false := by
  unfold acc
  rw [if_neg h]
  match ns, l with
  | [], _ => rfl
  | [_], _ => rfl
  | [_, _], l => exact absurd rfl l
  | _ :: _ :: _ :: _, _ => rfl
abbrev N_shows_likeliest : List Str := ["claim", "paper", "word", "carrier", "number", "row", "low", "high"]
theorem sc_shows_likeliest : FnScope N_shows_likeliest ["claim", "paper"] (defScope s_shows_likeliest) := ⟨rfl, rfl, rfl, by decide +kernel, rfl, by decide +kernel, by decide +kernel⟩
theorem ok_shows_likeliest (T : Tp K mg) : FnOk P w K mg base CX0 7 (fA K "shows_likeliest") (fD K "shows_likeliest") ["claim", "paper"] (sp_shows K) := by
  refine T.d_shows_likeliest.F.ok sc_shows_likeliest (fun vs H Q E h => ?_) (fun cdv A outer s H vs Q E hr h => ?_)
  · obtain ⟨_, _, _, _, _, _, _, rfl, _⟩ := h
    rfl
  · obtain ⟨_, _, wd, W, n, k, ns, rfl, ⟨a, c, rfl, hS, hC⟩, ⟨b, rfl, hI⟩, nl, hw, C, kn, q⟩ := h
    refine ⟨_, PSs.nox ((pss_cons (ps_asg (pv 0) (pg_tup rfl (pgs_cons (pg_name (i := 2) sc_shows_likeliest.nd rfl (Or.inl rfl)) (pgs_cons (pg_name (i := 3) sc_shows_likeliest.nd rfl (Or.inl rfl)) (pgs_cons (pg_name (i := 4) sc_shows_likeliest.nd rfl (Or.inl rfl)) pgs_nil)))))
      (pss_cons (ps_set (i := 5) sc_shows_likeliest.nd rfl (Or.inl rfl) (pe_call (ok_counts_by T) (hr.mono (by decide)) (by rfl) T.d_counts_by.g T.d_counts_by.F.kp T.b_counts_by .nil pass0 (pa_cons (pv 3) pa_nil)))
      (pss_cons (ps_if (pt_cmpR op_eq (pv 2) pe_str (nomark _)) (pss_one (ps_ret (pe_and (pe_cmpR (op_eqD hr.units) (pv 1) (pe_tup pa_nil) (nomark _)) (pe_one (pe_cmpR op_isN (pe_call (ok_barring T) (hr.mono (by decide)) (by rfl) T.d_barring.g T.d_barring.F.kp T.b_barring .nil pass0 (pa_cons (pv 5) (pa_cons (pv 4) pa_nil))) pe_non (nomark _)))))) pss_nil)
      (pss_cons (ps_if (pt_not (pt_val (pe_call (ok_are_wholes T) (hr.mono (by decide)) (by rfl) T.d_are_wholes.g T.d_are_wholes.F.kp T.b_are_wholes .nil pass0 (pa_cons (pv 1) (pa_cons pe_int pa_nil))))) (pss_one (ps_ret pe_bl)) pss_nil)
      (pss_cons (ps_asg (pv 1) (pg_tup rfl (pgs_cons (pg_name (i := 6) sc_shows_likeliest.nd rfl (Or.inl rfl)) (pgs_cons (pg_name (i := 7) sc_shows_likeliest.nd rfl (Or.inl rfl)) pgs_nil))))
      (pss_one (ps_ret (pe_and (pe_cmpR op_le pe_int (pv 6) (nomark _)) (pe_and (pe_cmpR op_lt (pv 6) (pv 4) (nomark _)) (pe_and (pe_cmpR op_lt (pv 4) (pv 7) (nomark _)) (pe_and (pe_cmpR op_lt (pv 7) (pe_callB call_len_seq (by rfl) T.z_len PySem.boot_len (pa_cons (pv 5) pa_nil)) (nomark _)) (pe_one (pe_call (ok_bars T) (hr.mono (by decide)) (by rfl) T.d_bars.g T.d_bars.F.kp T.b_bars .nil pass0 (pa_cons (pv 5) (pa_cons (pv 4) (pa_cons (pv 6) (pa_cons (pv 7) pa_nil)))))))))))))))))), ?_⟩
    refine ⟨_, rfl, a, _, rfl, hS, rfl, _, _, rfl, _, _, rfl, _, _, rfl, rfl, ?_⟩
    refine ⟨_, rfl, c, W, n, rfl, hC, C, fun H1 r s1 hR => ?_⟩
    have hRow := C.row
    have n5 := C.hi
    refine ⟨_, rfl, rfl, _, rfl, ite2 (fun e => ?_) (fun e => ?_)⟩
    · have ew : wd = wL := V.str.inj (of_decide_eq_true e)
      subst ew
      refine ⟨_, rfl, by show 0 ≤ sizeLine; decide, fun p hp => ?_⟩
      have s2 := s1.trans (same_new (o := .tup []) hp)
      refine ⟨_, _, dp_paper ⟨b, rfl, Same.tup s2 hI⟩, .tup (SqT.of upd_same) .nil, paper_shaped ns, by decide +kernel, _, rfl, ?_⟩
      have ea : acc wL (counts n W) k ns = (decide (ns = []) && (barF (counts n W) k).isNone) := rfl
      rw [ea] at q
      have e1 : PyData.eqv (.tuple (intsD ns)) (.tuple []) = decide (ns = []) := paper_eqv ns []
      show if PyData.eqv (.tuple (intsD ns)) (.tuple []) = true then _ else _
      rw [e1]
      by_cases e2 : ns = []
      · rw [decide_eq_true e2] at q ⊢
        refine iteT ⟨_, rfl, _, rfl, r, counts n W, n, k, rfl, hR.mono (same_new hp), hRow, kn, fun H3 v s3 pv => ⟨rfl, ?_⟩⟩
        rw [pv.none_iff]
        exact q H3 (s2.trans s3)
      · rw [decide_eq_false e2] at q ⊢
        exact iteF (q _ s2)
    · have ew : wd ≠ wL := fun z => e (decide_eq_true (by rw [z]))
      refine ⟨_, rfl, b, ns, 2, rfl, Same.tup s1 hI, nl, fun H2 s2 => ⟨_, rfl, ?_⟩⟩
      by_cases e2 : (ns.length : Int) = 2
      · rw [decide_eq_true e2]
        refine iteF ?_
        have hI2 := Same.tup (s1.trans s2) hI
        have hl2 : ns.length = 2 := by omega
        match ns, hl2 with
        | [lo, hi], _ =>
          have ea : acc wd (counts n W) k [lo, hi] = (decide (0 ≤ lo) && (decide (lo < (k : Int)) && (decide ((k : Int) < hi) && (decide (hi < ((counts n W).length : Int)) && barsF (counts n W) k lo.toNat hi.toNat)))) := by
            unfold acc
            rw [if_neg ew]
          rw [ea] at q
          have q2 := q _ (s1.trans s2)
          refine ⟨_, rfl, b, _, rfl, hI2, rfl, _, _, rfl, _, _, rfl, rfl, ?_⟩
          refine ⟨_, rfl, _, _, rfl, rfl, _, rfl, ?_⟩
          by_cases h1 : 0 ≤ lo
          · rw [decide_eq_true h1] at q2 ⊢
            refine iteT ⟨_, rfl, _, rfl, _, _, rfl, rfl, _, rfl, ?_⟩
            by_cases h2 : lo < (k : Int)
            · rw [decide_eq_true h2] at q2 ⊢
              refine iteT ⟨_, rfl, _, rfl, _, _, rfl, rfl, _, rfl, ?_⟩
              by_cases h3 : (k : Int) < hi
              · rw [decide_eq_true h3] at q2 ⊢
                obtain ⟨rs, eR, fR⟩ := hR.mono s2
                have hrl : rs.length = (counts n W).length := fR.1
                refine iteT ⟨_, rfl, _, rfl, r, rs, rfl, .inl (SqL.of eR), _, _, rfl, rfl, _, rfl, ?_⟩
                show if decide (hi < ((rs.length : Nat) : Int)) = true then _ else _
                rw [hrl]
                by_cases h4 : hi < ((counts n W).length : Int)
                · rw [decide_eq_true h4] at q2 ⊢
                  have hcl : (counts n W).length = n + 1 := hRow.len
                  refine iteT ⟨_, rfl, _, rfl, _, rfl, _, rfl, r, counts n W, n, k, lo.toNat, hi.toNat, ?_, hR.mono s2, hRow, by omega, by omega, by omega, fun H3 s3 => ?_⟩
                  · rw [Int.toNat_of_nonneg h1, Int.toNat_of_nonneg (by omega)]
                    rfl
                  · rw [ea, decide_eq_true h1, decide_eq_true h2, decide_eq_true h3, decide_eq_true h4] at *
                    exact q H3 ((s1.trans s2).trans s3)
                · rw [decide_eq_false h4] at q2 ⊢
                  exact iteF q2
              · rw [decide_eq_false h3] at q2 ⊢
                exact iteF q2
            · rw [decide_eq_false h2] at q2 ⊢
              exact iteF q2
          · rw [decide_eq_false h1] at q2 ⊢
            exact iteF q2
      · rw [decide_eq_false e2]
        refine iteT ?_
        rw [acc_not2 ew (by omega)] at q
        exact q _ (s1.trans s2)
abbrev N_shows_of_carriers : List Str := ["claim", "paper", "word"]
theorem sc_shows_of_carriers : FnScope N_shows_of_carriers ["claim", "paper"] (defScope s_shows_of_carriers) := ⟨rfl, rfl, rfl, by decide +kernel, rfl, by decide +kernel, by decide +kernel⟩
theorem ok_shows_of_carriers (T : Tp K mg) : FnOk P w K mg base CX0 8 (fA K "shows_of_carriers") (fD K "shows_of_carriers") ["claim", "paper"] (sp_shows K) := by
  refine T.d_shows_of_carriers.F.ok sc_shows_of_carriers (fun vs H Q E h => ?_) (fun cdv A outer s H vs Q E hr h => ?_)
  · obtain ⟨_, _, _, _, _, _, _, rfl, _⟩ := h
    rfl
  · obtain ⟨_, y, wd, W, n, k, ns, rfl, hCl, hI, nl, hw, C, kn, q⟩ := h
    obtain ⟨a, c, rfl, hS, hC⟩ := id hCl
    refine ⟨_, PSs.nox ((pss_cons (ps_set (i := 2) sc_shows_of_carriers.nd rfl (Or.inl rfl) (pe_ix ix_tup (pv 0) pe_int (fun _ _ => rfl)))
      (pss_cons (ps_if (pt_cmpR op_in_seq (pv 2) (pe_tup (pa_cons pe_str (pa_cons pe_str (pa_cons pe_str (pa_cons pe_str pa_nil))))) (by rfl)) (pss_one (ps_ret pe_never)) pss_nil)
      (pss_cons (ps_if (pt_cmpR op_in_seq (pv 2) (pe_tup (pa_cons pe_str (pa_cons pe_str pa_nil))) (by rfl)) (pss_one (ps_ret (pe_call (ok_shows_likeliest T) (hr.mono (by decide)) (by rfl) T.d_shows_likeliest.g T.d_shows_likeliest.F.kp T.b_shows_likeliest .nil pass0 (pa_cons (pv 0) (pa_cons (pv 1) pa_nil))))) pss_nil)
      pss_never)))), ?_⟩
    refine ⟨_, rfl, a, _, _, _, rfl, rfl, hS, rfl, ?_⟩
    refine ⟨_, rfl, by show 4 ≤ sizeLine; decide, fun p hp => ⟨p, _, rfl, .inr (SqT.of upd_same), rfl, rfl, _, rfl, ?_⟩⟩
    have e2 : inV (.str wd) [.str "alike", .str "unlike", .str "never fuller", .str "fuller"] = false := by
      rcases hw with rfl | rfl <;> decide +kernel
    show if inV (.str wd) [.str "alike", .str "unlike", .str "never fuller", .str "fuller"] = true then _ else _
    rw [e2]
    refine iteF ⟨_, rfl, by show 2 ≤ sizeLine; decide, fun p2 hp2 => ⟨p2, _, rfl, .inr (SqT.of upd_same), rfl, rfl, _, rfl, ?_⟩⟩
    have e3 : inV (.str wd) [.str wL, .str wN] = true := by
      rcases hw with rfl | rfl <;> decide +kernel
    show if inV (.str wd) [.str wL, .str wN] = true then _ else _
    rw [e3]
    have s3 := (same_new (o := .tup [.str "alike", .str "unlike", .str "never fuller", .str "fuller"]) hp).trans (same_new (o := .tup [.str wL, .str wN]) hp2)
    exact iteT ⟨_, rfl, _, rfl, _, y, wd, W, n, k, ns, rfl, hCl.mono s3, hI.mono s3, nl, hw, C, kn, fun H' s' => q H' (s3.trans s')⟩
abbrev N_accepts : List Str := ["claim", "paper", "found"]
theorem sc_accepts : FnScope N_accepts ["claim", "paper"] (defScope s_accepts) := ⟨rfl, rfl, rfl, by decide +kernel, rfl, by decide +kernel, by decide +kernel⟩
theorem ok_accepts (T : Tp K mg) : FnOk P w K mg base CX0 9 (fA K "accepts") (fD K "accepts") ["claim", "paper"] (sp_shows K) := by
  refine T.d_accepts.F.ok sc_accepts (fun vs H Q E h => ?_) (fun cdv A outer s H vs Q E hr h => ?_)
  · obtain ⟨_, _, _, _, _, _, _, rfl, _⟩ := h
    rfl
  · obtain ⟨x, y, wd, W, n, k, ns, rfl, hCl, hI, nl, hw, C, kn, q⟩ := h
    refine ⟨_, PSs.nox ((pss_cons (ps_if (pt_not (pt_val (pe_call (ok_is_claim T) (hr.mono (by decide)) (by rfl) T.d_is_claim.g T.d_is_claim.F.kp T.b_is_claim .nil pass0 (pa_cons (pv 0) pa_nil)))) (pss_one (ps_ret pe_bl)) pss_nil)
      (pss_cons (ps_set (i := 2) sc_accepts.nd rfl (Or.inl rfl) (pe_call (ok_shows_of_carriers T) (hr.mono (by decide)) (by rfl) T.d_shows_of_carriers.g T.d_shows_of_carriers.F.kp T.b_shows_of_carriers .nil pass0 (pa_cons (pv 0) (pa_cons (pv 1) pa_nil))))
      (pss_one (ps_ret (pe_ifExp (pt_cmpR op_isN (pv 2) pe_non (nomark _)) pe_never (pv 2))))))), ?_⟩
    refine ⟨_, rfl, x, wd, W, n, k, rfl, hCl, hw, C, kn, fun H1 s1 => ⟨true, rfl, iteF ?_⟩⟩
    refine ⟨_, rfl, _, rfl, x, y, wd, W, n, k, ns, rfl, hCl.mono s1, hI.mono s1, nl, hw, C, kn, fun H2 s2 => ?_⟩
    exact ⟨_, rfl, rfl, _, rfl, iteF ⟨_, rfl, q H2 (s1.trans s2)⟩⟩
end
end G7
end

section
set_option Elab.async false
set_option linter.all false
set_option maxRecDepth 100000
set_option maxHeartbeats 4000000
namespace G7
open PySem PySem.Spec PyProof.Rows L2
abbrev fives : List V := [.int 2, .int 4, .int 8, .int 16, .int 32]
theorem fives_ix : ∀ n, 1 ≤ n → n ≤ 5 → ∃ (j : Nat) (z : V), j + 1 = n ∧ fives[j]? = some z ∧ eqV z (.int ((2 ^ n : Nat) : Int)) = true ∧ ∀ (m : Nat) (y : V), m < j → fives[m]? = some y → eqV y (.int ((2 ^ n : Nat) : Int)) = false := by
  intro n h1 h2
  have key : ∀ (j m : Nat) (y : V), j < 5 → m < j → fives[m]? = some y → eqV y (.int ((2 ^ (j + 1) : Nat) : Int)) = false := by
    intro j m y hj hm hy
    have h4 : m < 4 := by omega
    match m, h4 with
    | 0, _ =>
      cases hy
      match j, hj, hm with
      | 1, _, _ => decide
      | 2, _, _ => decide
      | 3, _, _ => decide
      | 4, _, _ => decide
    | 1, _ =>
      cases hy
      match j, hj, hm with
      | 2, _, _ => decide
      | 3, _, _ => decide
      | 4, _, _ => decide
    | 2, _ =>
      cases hy
      match j, hj, hm with
      | 3, _, _ => decide
      | 4, _, _ => decide
    | 3, _ =>
      cases hy
      match j, hj, hm with
      | 4, _, _ => decide
  match n, h1, h2 with
  | 1, _, _ => exact ⟨0, _, rfl, rfl, by decide, fun m y hm hy => key 0 m y (by decide) hm hy⟩
  | 2, _, _ => exact ⟨1, _, rfl, rfl, by decide, fun m y hm hy => key 1 m y (by decide) hm hy⟩
  | 3, _, _ => exact ⟨2, _, rfl, rfl, by decide, fun m y hm hy => key 2 m y (by decide) hm hy⟩
  | 4, _, _ => exact ⟨3, _, rfl, rfl, by decide, fun m y hm hy => key 3 m y (by decide) hm hy⟩
  | 5, _, _ => exact ⟨4, _, rfl, rfl, by decide, fun m y hm hy => key 4 m y (by decide) hm hy⟩
theorem abs_nat (n : Nat) : (if (n : Int) < 0 then -(n : Int) else (n : Int)) = (n : Int) := if_neg (by omega)
section
variable {P : Program} {w : World} {K : PySem.W.Frag} {mg : Str → Option Value} {base : Heap}
def sp_common : Sp := fun vs H Q _ => ∃ x y : Nat, vs = [.int (x : Int), .int (y : Int)] ∧ Q (.int (Nat.gcd x y : Nat)) H
abbrev N_law_common : List Str := ["_law_one", "_law_two"]
theorem sc_law_common : FnScope N_law_common ["_law_one", "_law_two"] (defScope s_law_common) := ⟨rfl, rfl, rfl, by decide +kernel, rfl, by decide +kernel, by decide +kernel⟩
theorem ok_law_common (T : Tp K mg) : FnOk P w K mg base CX0 1 (fA K "_law_common") (fD K "_law_common") ["_law_one", "_law_two"] sp_common := by
  refine T.d_law_common.F.ok sc_law_common (fun vs H Q E h => ?_) (fun cdv A outer s H vs Q E hr h => ?_)
  · obtain ⟨_, _, rfl, _⟩ := h
    rfl
  · obtain ⟨x, y, rfl, q⟩ := h
    refine ⟨_, PSs.nox ((pss_cons (ps_par (i := 0) (j := 1) rfl sc_law_common.nd rfl rfl (by decide) rfl rfl (pa_cons (pe_callB call_abs (by rfl) T.z_abs (by decide +kernel) (pa_cons (pv 0) pa_nil)) (pa_cons (pe_callB call_abs (by rfl) T.z_abs (by decide +kernel) (pa_cons (pv 1) pa_nil)) pa_nil)) (by rfl))
      (pss_cons (ps_while PassesOwn.never (pt_cmpR op_gt (pv 1) pe_int (nomark _)) (pss_one (ps_par (i := 0) (j := 1) rfl sc_law_common.nd rfl rfl (by decide) rfl rfl (pa_cons (pv 1) (pa_cons (pe_op op_mod (pe_callTy call_int1 (by rfl) T.z_int (by decide +kernel) (pa_cons (pv 0) pa_nil)) (pv 1)) pa_nil)) (by rfl))))
      (pss_one (ps_ret (pv 0)))))), ?_⟩
    refine ⟨_, rfl, _, rfl, _, rfl, _, rfl, _, _, rfl, fun m σ H' => ∃ u v : Nat, σ = [some (.int (u : Int)), some (.int (v : Int))] ∧ Nat.gcd u v = Nat.gcd x y ∧ m = v ∧ H' = H, ⟨y, x, y, ?_, rfl, rfl, rfl⟩, ?_⟩
    · show [some (V.int (if (x : Int) < 0 then -(x : Int) else (x : Int))), some (V.int (if (y : Int) < 0 then -(y : Int) else (y : Int)))] = _
      rw [abs_nat, abs_nat]
    · rintro m σ H' ⟨u, v, rfl, hg, rfl, rfl⟩
      refine ⟨_, rfl, _, _, rfl, rfl, _, rfl, ?_⟩
      by_cases h0 : 0 < m
      · rw [decide_eq_true (nat_pos h0)]
        refine iteT ⟨fun σ' H2 => ∃ u v : Nat, σ' = [some (.int (u : Int)), some (.int (v : Int))] ∧ Nat.gcd u v = Nat.gcd x y ∧ v < m ∧ H2 = H', ?_, ?_⟩
        · rintro σ' H2 ⟨a, b, rfl, hg2, hb, rfl⟩
          exact ⟨b, hb, a, b, rfl, hg2, rfl, rfl⟩
        · refine ⟨_, rfl, _, rfl, .inl ⟨_, rfl, _, rfl, _, _, rfl, rfl, nat_pos h0, _, _, rfl, m, u % m, ?_, ?_, Nat.mod_lt _ h0, rfl⟩⟩
          · show [some (V.int (m : Int)), some (V.int ((u : Int) % (m : Int)))] = _
            rw [Int.natCast_emod]
          · rw [← hg, Nat.gcd_comm u m, Nat.gcd_rec m u, Nat.gcd_comm]
      · have e0 : m = 0 := by omega
        subst e0
        rw [Nat.gcd_zero_right] at hg
        refine iteF ⟨_, rfl, ?_⟩
        rw [hg]
        exact q
def sp_law_low (K : PySem.W.Frag) : Sp := fun vs H Q _ => ∃ t u : Nat, vs = [.int (t : Int), .int (u : Int)] ∧ 0 < u ∧ u < 2 ^ 8000 ∧ ∀ H' v, Same H H' → IsF K H' v (red t u) → Q v H'
abbrev N_law_low : List Str := ["_law_top", "_law_under_here", "_law_deep"]
theorem sc_law_low : FnScope N_law_low ["_law_top", "_law_under_here"] (defScope s_law_low) := ⟨rfl, rfl, rfl, by decide +kernel, rfl, by decide +kernel, by decide +kernel⟩
theorem ok_law_low (T : Tp K mg) : FnOk P w K mg base CX0 2 (fA K "_law_low") (fD K "_law_low") ["_law_top", "_law_under_here"] (sp_law_low K) := by
  refine T.d_law_low.F.ok sc_law_low (fun vs H Q E h => ?_) (fun cdv A outer s H vs Q E hr h => ?_)
  · obtain ⟨_, _, rfl, _⟩ := h
    rfl
  · obtain ⟨t, u, rfl, u0, ub, q⟩ := h
    refine ⟨_, PSs.nox ((pss_cons (ps_set (i := 2) sc_law_low.nd rfl (Or.inl rfl) (pe_call (ok_law_common T) (hr.mono (by decide)) (by rfl) T.d_law_common.g T.d_law_common.F.kp T.b_law_common .nil pass0 (pa_cons (pv 0) (pa_cons (pv 1) pa_nil))))
      (pss_one (ps_ret (pe_ifExp (pt_cmpR op_gt (pv 1) pe_int (nomark _)) (pe_tup (pa_cons (pe_op op_fdivW (pv 0) (pv 2)) (pa_cons (pe_op op_fdivW (pv 1) (pv 2)) pa_nil))) (pe_tup (pa_cons (pe_op op_sub pe_int (pe_op op_fdivW (pv 0) (pv 2))) (pa_cons (pe_op op_sub pe_int (pe_op op_fdivW (pv 1) (pv 2))) pa_nil)))))))), ?_⟩
    have g0 : 0 < Nat.gcd t u := gcd_pos t u0
    have gb : Nat.gcd t u < 2 ^ 8000 := Nat.lt_of_le_of_lt (gcd_le_right t u0) ub
    have dv : CDivW ((0 : Nat) : Int) ((Nat.gcd t u : Nat) : Int) := wide_div (nat_pos g0) (natAbs_lt gb) (by decide) (by decide)
    refine ⟨_, rfl, _, rfl, t, u, rfl, _, rfl, _, _, rfl, rfl, _, rfl, ?_⟩
    rw [decide_eq_true (nat_pos u0)]
    refine iteT ⟨_, rfl, _, rfl, _, _, rfl, rfl, dv, _, rfl, _, rfl, _, _, rfl, rfl, dv, by show 2 ≤ sizeLine; decide, fun p hp => q _ _ (same_new hp) ⟨p, rfl, SqT.of ?_⟩⟩
    rw [upd_same]
    show some (HO.tup [V.int ((t : Int) / ((Nat.gcd t u : Nat) : Int)), V.int ((u : Int) / ((Nat.gcd t u : Nat) : Int))]) = _
    rw [← Int.natCast_ediv, ← Int.natCast_ediv]
    rfl
abbrev N_law_add : List Str := ["_law_one", "_law_two"]
theorem sc_law_add : FnScope N_law_add ["_law_one", "_law_two"] (defScope s_law_add) := ⟨rfl, rfl, rfl, by decide +kernel, rfl, by decide +kernel, by decide +kernel⟩
theorem ok_law_add (T : Tp K mg) : FnOk P w K mg base CX0 3 (fA K "_law_add") (fD K "_law_add") ["_law_one", "_law_two"] (sp_plus K) := by
  refine T.d_law_add.F.ok sc_law_add (fun vs H Q E h => ?_) (fun cdv A outer s H vs Q E hr h => ?_)
  · obtain ⟨_, _, _, _, _, _, rfl, _⟩ := h
    rfl
  · obtain ⟨_, _, p, q, m, n, rfl, ⟨a, rfl, ha⟩, ⟨b, rfl, hb⟩, bp, bq, mn, k⟩ := h
    refine ⟨_, PSs.nox ((pss_one (ps_ret (pe_call (ok_law_low T) (hr.mono (by decide)) (by rfl) T.d_law_low.g T.d_law_low.F.kp T.b_law_low .nil pass0 (pa_cons (pe_op op_add (pe_op op_mulW (pe_ix ix_tup (pv 0) pe_int (fun _ _ => rfl)) (pe_ix ix_tup (pv 1) pe_int (fun _ _ => rfl))) (pe_op op_mulW (pe_ix ix_tup (pv 1) pe_int (fun _ _ => rfl)) (pe_ix ix_tup (pv 0) pe_int (fun _ _ => rfl)))) (pa_cons (pe_op op_mulW (pe_ix ix_tup (pv 0) pe_int (fun _ _ => rfl)) (pe_ix ix_tup (pv 1) pe_int (fun _ _ => rfl))) pa_nil)))))), ?_⟩
    refine ⟨_, rfl, _, _, _, _, rfl, rfl, ha, rfl, _, rfl, _, _, _, _, rfl, rfl, hb, rfl, _, _, rfl, rfl, mulw bp.1 bq.2.1 (by omega),
      _, rfl, _, _, _, _, rfl, rfl, hb, rfl, _, rfl, _, _, _, _, rfl, rfl, ha, rfl, _, _, rfl, rfl, mulw bq.1 bp.2.1 (by omega), _, _, rfl, rfl,
      _, rfl, _, _, _, _, rfl, rfl, ha, rfl, _, rfl, _, _, _, _, rfl, rfl, hb, rfl, _, _, rfl, rfl, mulw bp.2.1 bq.2.1 (by omega), ?_⟩
    have u0 : 0 < p.2 * q.2 := Nat.mul_pos bp.2.2 bq.2.2
    have ub : p.2 * q.2 < 2 ^ 8000 := Nat.lt_of_lt_of_le (mul_lt_pow bp.2.1 bq.2.1) (Nat.pow_le_pow_right (by decide) (by omega))
    exact ⟨p.1 * q.2 + q.1 * p.2, p.2 * q.2, by simp only [Int.natCast_add, Int.natCast_mul, List.append_nil], u0, ub, fun H' v s' f => k H' v s' f⟩
abbrev N_law_mul : List Str := ["_law_one", "_law_two"]
theorem sc_law_mul : FnScope N_law_mul ["_law_one", "_law_two"] (defScope s_law_mul) := ⟨rfl, rfl, rfl, by decide +kernel, rfl, by decide +kernel, by decide +kernel⟩
theorem ok_law_mul (T : Tp K mg) : FnOk P w K mg base CX0 3 (fA K "_law_mul") (fD K "_law_mul") ["_law_one", "_law_two"] (sp_times K) := by
  refine T.d_law_mul.F.ok sc_law_mul (fun vs H Q E h => ?_) (fun cdv A outer s H vs Q E hr h => ?_)
  · obtain ⟨_, _, _, _, _, _, rfl, _⟩ := h
    rfl
  · obtain ⟨_, _, p, q, m, n, rfl, ⟨a, rfl, ha⟩, ⟨b, rfl, hb⟩, bp, bq, mn, k⟩ := h
    refine ⟨_, PSs.nox ((pss_one (ps_ret (pe_call (ok_law_low T) (hr.mono (by decide)) (by rfl) T.d_law_low.g T.d_law_low.F.kp T.b_law_low .nil pass0 (pa_cons (pe_op op_mulW (pe_ix ix_tup (pv 0) pe_int (fun _ _ => rfl)) (pe_ix ix_tup (pv 1) pe_int (fun _ _ => rfl))) (pa_cons (pe_op op_mulW (pe_ix ix_tup (pv 0) pe_int (fun _ _ => rfl)) (pe_ix ix_tup (pv 1) pe_int (fun _ _ => rfl))) pa_nil)))))), ?_⟩
    refine ⟨_, rfl, _, _, _, _, rfl, rfl, ha, rfl, _, rfl, _, _, _, _, rfl, rfl, hb, rfl, _, _, rfl, rfl, mulw bp.1 bq.1 (by omega),
      _, rfl, _, _, _, _, rfl, rfl, ha, rfl, _, rfl, _, _, _, _, rfl, rfl, hb, rfl, _, _, rfl, rfl, mulw bp.2.1 bq.2.1 (by omega), ?_⟩
    have u0 : 0 < p.2 * q.2 := Nat.mul_pos bp.2.2 bq.2.2
    have ub : p.2 * q.2 < 2 ^ 8000 := Nat.lt_of_lt_of_le (mul_lt_pow bp.2.1 bq.2.1) (Nat.pow_le_pow_right (by decide) (by omega))
    exact ⟨p.1 * q.1, p.2 * q.2, by simp only [Int.natCast_mul, List.append_nil], u0, ub, fun H' v s' f => k H' v s' f⟩
abbrev N_law_under : List Str := ["_law_one", "_law_two"]
theorem sc_law_under : FnScope N_law_under ["_law_one", "_law_two"] (defScope s_law_under) := ⟨rfl, rfl, rfl, by decide +kernel, rfl, by decide +kernel, by decide +kernel⟩
theorem ok_law_under (T : Tp K mg) : FnOk P w K mg base CX0 1 (fA K "_law_under") (fD K "_law_under") ["_law_one", "_law_two"] (sp_is_below K) := by
  refine T.d_law_under.F.ok sc_law_under (fun vs H Q E h => ?_) (fun cdv A outer s H vs Q E hr h => ?_)
  · obtain ⟨_, _, _, _, _, _, rfl, _⟩ := h
    rfl
  · obtain ⟨_, _, p, q, m, n, rfl, ⟨a, rfl, ha⟩, ⟨b, rfl, hb⟩, bp, bq, mn, k⟩ := h
    refine ⟨_, PSs.nox ((pss_one (ps_ret (pe_cmpR op_lt (pe_op op_mulW (pe_ix ix_tup (pv 0) pe_int (fun _ _ => rfl)) (pe_ix ix_tup (pv 1) pe_int (fun _ _ => rfl))) (pe_op op_mulW (pe_ix ix_tup (pv 1) pe_int (fun _ _ => rfl)) (pe_ix ix_tup (pv 0) pe_int (fun _ _ => rfl))) (nomark _))))), ?_⟩
    refine ⟨_, rfl, _, _, _, _, rfl, rfl, ha, rfl, _, rfl, _, _, _, _, rfl, rfl, hb, rfl, _, _, rfl, rfl, mulw bp.1 bq.2.1 (by omega),
      _, rfl, _, _, _, _, rfl, rfl, hb, rfl, _, rfl, _, _, _, _, rfl, rfl, ha, rfl, _, _, rfl, rfl, mulw bq.1 bp.2.1 (by omega), _, _, rfl, rfl, ?_⟩
    have e : decide ((p.1 : Int) * (q.2 : Int) < (q.1 : Int) * (p.2 : Int)) = ltF p q := by
      unfold ltF
      rw [← Int.natCast_mul, ← Int.natCast_mul]
      exact decide_eq_decide.mpr Int.ofNat_lt
    show Q (.bl (decide ((p.1 : Int) * (q.2 : Int) < (q.1 : Int) * (p.2 : Int)))) H
    rw [e]
    exact k
def sp_law_power : Sp := fun vs H Q _ => ∃ b n k : Nat, vs = [.int (b : Int), .int (k : Int)] ∧ b < 2 ^ n ∧ 0 < n ∧ n ≤ 2000 ∧ k ≤ 100 ∧ Q (.int ((b ^ k : Nat) : Int)) H
abbrev N_law_power : List Str := ["_law_base", "_law_many_here", "_law_found", "_law_lap"]
theorem sc_law_power : FnScope N_law_power ["_law_base", "_law_many_here"] (defScope s_law_power) := ⟨rfl, rfl, rfl, by decide +kernel, rfl, by decide +kernel, by decide +kernel⟩
theorem ok_law_power (T : Tp K mg) : FnOk P w K mg base CX0 1 (fA K "_law_power") (fD K "_law_power") ["_law_base", "_law_many_here"] sp_law_power := by
  refine T.d_law_power.F.ok sc_law_power (fun vs H Q E h => ?_) (fun cdv A outer s H vs Q E hr h => ?_)
  · obtain ⟨_, _, _, rfl, _⟩ := h
    rfl
  · obtain ⟨b, n, k, rfl, hb, n0, nn, kk, q⟩ := h
    refine ⟨_, PSs.nox ((pss_cons (ps_set (i := 2) sc_law_power.nd rfl (Or.inl rfl) pe_int)
      (pss_cons (ps_for PassesOwn.never rfl (pi_range1 (by rfl) T.z_range (pa_cons (pv 1) pa_nil)) (pg_name (i := 3) sc_law_power.nd rfl (Or.inl rfl)) (pss_one (ps_set (i := 2) sc_law_power.nd rfl (Or.inl rfl) (pe_op op_mulW (pv 2) (pv 0)))))
      (pss_one (ps_ret (pv 2)))))), ?_⟩
    refine ⟨_, rfl, (k : Int), rfl, by omega, by omega, for_range (lo := 0) (fun i σ H' => ∃ y3, σ = [some (.int (b : Int)), some (.int (k : Int)), some (.int ((b ^ i : Nat) : Int)), y3] ∧ H' = H) ⟨none, rfl, rfl⟩ ?_ ?_⟩
    · rintro i σ H' hi ⟨y3, rfl, rfl⟩
      rw [Int.toNat_natCast] at hi
      have ni : n * i + 1 + n ≤ 900000 := by
        have : n * i ≤ 2000 * 100 := Nat.mul_le_mul nn (by omega)
        omega
      refine ⟨_, rfl, _, rfl, _, _, rfl, rfl, mulw (pow_bd hb n0 i) hb ni, some (.int (0 + (i : Int))), ?_, rfl⟩
      rw [Nat.pow_succ, Int.natCast_mul]
      rfl
    · rintro σ H' ⟨y3, rfl, rfl⟩
      rw [Int.toNat_natCast]
      exact ⟨_, rfl, q⟩
abbrev N_law_raised : List Str := ["_law_some_here", "_law_many_here"]
theorem sc_law_raised : FnScope N_law_raised ["_law_some_here", "_law_many_here"] (defScope s_law_raised) := ⟨rfl, rfl, rfl, by decide +kernel, rfl, by decide +kernel, by decide +kernel⟩
theorem ok_law_raised (T : Tp K mg) : FnOk P w K mg base CX0 2 (fA K "_law_raised") (fD K "_law_raised") ["_law_some_here", "_law_many_here"] (sp_power K) := by
  refine T.d_law_raised.F.ok sc_law_raised (fun vs H Q E h => ?_) (fun cdv A outer s H vs Q E hr h => ?_)
  · obtain ⟨_, _, _, _, rfl, _⟩ := h
    rfl
  · obtain ⟨_, p, n, k, rfl, ⟨a, rfl, ha⟩, bp, n0, nn, kk, q⟩ := h
    refine ⟨_, PSs.nox ((pss_one (ps_ret (pe_tup (pa_cons (pe_call (ok_law_power T) (hr.mono (by decide)) (by rfl) T.d_law_power.g T.d_law_power.F.kp T.b_law_power .nil pass0 (pa_cons (pe_ix ix_tup (pv 0) pe_int (fun _ _ => rfl)) (pa_cons (pv 1) pa_nil))) (pa_cons (pe_call (ok_law_power T) (hr.mono (by decide)) (by rfl) T.d_law_power.g T.d_law_power.F.kp T.b_law_power .nil pass0 (pa_cons (pe_ix ix_tup (pv 0) pe_int (fun _ _ => rfl)) (pa_cons (pv 1) pa_nil))) pa_nil)))))), ?_⟩
    refine ⟨_, rfl, _, _, _, _, rfl, rfl, ha, rfl, _, rfl, p.1, n, k, rfl, bp.1, n0, nn, kk, ?_⟩
    refine ⟨_, rfl, _, _, _, _, rfl, rfl, ha, rfl, _, rfl, p.2, n, k, rfl, bp.2.1, n0, nn, kk, ?_⟩
    exact ⟨by show 2 ≤ sizeLine; decide, fun l hl => q _ _ (same_new hl) ⟨l, rfl, SqT.of upd_same⟩⟩
/-! ### many, has, count_seats -/
abbrev N_law_many : List Str := ["_law_standing", "_law_found", "_law_seat"]
theorem sc_law_many : FnScope N_law_many ["_law_standing"] (defScope s_law_many) := ⟨rfl, rfl, rfl, by decide +kernel, rfl, by decide +kernel, by decide +kernel⟩
theorem ok_law_many (T : Tp K mg) : FnOk P w K mg base CX0 1 (fA K "_law_many") (fD K "_law_many") ["_law_standing"] sp_bits_in := by
  refine T.d_law_many.F.ok sc_law_many (fun vs H Q E h => ?_) (fun cdv A outer s H vs Q E hr h => ?_)
  · obtain ⟨_, rfl, _⟩ := h
    rfl
  · obtain ⟨n, rfl, n64, q⟩ := h
    refine ⟨_, PSs.nox ((pss_cons (ps_set (i := 1) sc_law_many.nd rfl (Or.inl rfl) pe_int)
      (pss_cons (ps_for PassesOwn.never rfl (pi_range1 (by rfl) T.z_range (pa_cons pe_int pa_nil)) (pg_name (i := 2) sc_law_many.nd rfl (Or.inl rfl)) (pss_one (ps_set (i := 1) sc_law_many.nd rfl (Or.inl rfl) (pe_op op_add (pv 1) (pe_op op_mod (pe_callTy call_int1 (by rfl) T.z_int (by decide +kernel) (pa_cons (pe_op op_shr (pv 0) (pv 2)) pa_nil)) pe_int)))))
      (pss_one (ps_ret (pv 1)))))), ?_⟩
    refine ⟨6, rfl, by decide, by decide, for_range (lo := 0) (n := 6) (fun i σ H' => ∃ y2, σ = [some (.int (n : Int)), some (.int (bitsUp n i : Nat)), y2] ∧ H' = H) ⟨none, rfl, rfl⟩ ?_ ?_⟩
    · rintro i σ H' hi ⟨y2, rfl, rfl⟩
      refine ⟨_, rfl, _, rfl, _, rfl, _, _, rfl, rfl, by omega, .inl ⟨_, rfl, _, _, rfl, rfl, (by show (0 : Int) < 2; decide), _, _, rfl, rfl, some (.int (0 + (i : Int))), ?_, rfl⟩⟩
      have e : ((bitsUp n (i + 1) : Nat) : Int) = (bitsUp n i : Int) + (n : Int) / 2 ^ ((0 : Int) + (i : Int)).toNat % 2 := by
        show ((bitsUp n i + n / 2 ^ i % 2 : Nat) : Int) = _
        rw [show ((0 : Int) + (i : Int)).toNat = i by omega, Int.natCast_add, Int.natCast_emod, Int.natCast_ediv, Int.natCast_pow]
        rfl
      rw [e]
      rfl
    · rintro σ H' ⟨y2, rfl, rfl⟩
      rw [bitsUp_six]
      exact ⟨_, rfl, q⟩
def sp_law_has : Sp := fun vs H Q _ => ∃ n s : Nat, vs = [.int (n : Int), .int (s : Int)] ∧ ∀ b, (n = 0 → b = false) → Q (.bl b) H
abbrev N_law_has : List Str := ["_law_standing", "_law_seat"]
theorem sc_law_has : FnScope N_law_has ["_law_standing", "_law_seat"] (defScope s_law_has) := ⟨rfl, rfl, rfl, by decide +kernel, rfl, by decide +kernel, by decide +kernel⟩
theorem ok_law_has (T : Tp K mg) : FnOk P w K mg base CX0 1 (fA K "_law_has") (fD K "_law_has") ["_law_standing", "_law_seat"] sp_law_has := by
  refine T.d_law_has.F.ok sc_law_has (fun vs H Q E h => ?_) (fun cdv A outer s H vs Q E hr h => ?_)
  · obtain ⟨_, _, rfl, _⟩ := h
    rfl
  · obtain ⟨n, t, rfl, q⟩ := h
    refine ⟨_, PSs.nox ((pss_one (ps_ret (pe_cmpR op_eq (pe_op op_mod (pe_callTy call_int1 (by rfl) T.z_int (by decide +kernel) (pa_cons (pe_op op_shr (pv 0) (pv 1)) pa_nil)) pe_int) pe_int (nomark _))))), ?_⟩
    refine ⟨_, rfl, _, rfl, _, _, rfl, rfl, by omega, .inl ⟨_, rfl, _, _, rfl, rfl, (by show (0 : Int) < 2; decide), rfl, q _ fun e => ?_⟩⟩
    subst e
    show decide (V.int ((0 : Int) / 2 ^ ((t : Nat) : Int).toNat % 2) = V.int 1) = false
    rw [Int.zero_ediv]
    decide
def sp_law_count_seats (K : PySem.W.Frag) : Sp := fun vs H Q _ => ∃ (c : V) (W : List Q2) (n : Nat), vs = [c] ∧ IsC K H c W ∧ Car n W ∧ ∀ H', Same H H' → Q (.int (n : Int)) H'
abbrev N_law_count_seats : List Str := ["_law_weights"]
theorem sc_law_count_seats : FnScope N_law_count_seats ["_law_weights"] (defScope s_law_count_seats) := ⟨rfl, rfl, rfl, by decide +kernel, rfl, by decide +kernel, by decide +kernel⟩
theorem ok_law_count_seats (T : Tp K mg) : FnOk P w K mg base CX0 1 (fA K "_law_count_seats") (fD K "_law_count_seats") ["_law_weights"] (sp_law_count_seats K) := by
  refine T.d_law_count_seats.F.ok sc_law_count_seats (fun vs H Q E h => ?_) (fun cdv A outer s H vs Q E hr h => ?_)
  · obtain ⟨_, _, _, rfl, _⟩ := h
    rfl
  · obtain ⟨_, W, n, rfl, ⟨a, vs, rfl, hS, hF⟩, C, q⟩ := h
    have hl : vs.length = 2 ^ n := by rw [hF.1, C.len]
    obtain ⟨j, z, ej, hz, hzj, hno⟩ := fives_ix n C.lo C.hi
    refine ⟨_, PSs.nox ((pss_one (ps_ret (pe_op op_add (pe_bm PySem.F.plainAttrs_list PySem.F.slot_list_index PySem.F.type_list_index mt_index (pe_lst (pa_cons pe_int (pa_cons pe_int (pa_cons pe_int (pa_cons pe_int (pa_cons pe_int pa_nil)))))) (pa_cons (pe_callB call_len_seq (by rfl) T.z_len PySem.boot_len (pa_cons (pv 0) pa_nil)) pa_nil)) pe_int)))), ?_⟩
    refine ⟨by show 5 ≤ sizeLine; decide, fun l hl2 => ?_⟩
    refine ⟨.inl ⟨rfl, _, SqL.of upd_same⟩, _, rfl, a, _, rfl, .inr (Same.tup (same_new hl2) hS), l, fives, _, j, z, rfl, rfl, SqL.of upd_same, rfl, rfl, hz, ?_, ?_, _, _, rfl, rfl, ?_⟩
    · show eqV z (.int ((vs.length : Nat) : Int)) = true
      rw [hl]
      exact hzj
    · intro m y hm hy
      show eqV y (.int ((vs.length : Nat) : Int)) = false
      rw [hl]
      exact hno m y hm hy
    · have e : ((j : Nat) : Int) + 1 = (n : Int) := by omega
      show Q (.int (((j : Nat) : Int) + 1)) _
      rw [e]
      exact q _ (same_new hl2)
/-! ### counts -/
def sp_law_counts (K : PySem.W.Frag) : Sp := fun vs H Q _ => ∃ (c : V) (W : List Q2) (n : Nat), vs = [c] ∧ IsC K H c W ∧ Car n W ∧ ∀ H' v, Same H H' → IsC K H' v (counts n W) → Q v H'
abbrev N_law_counts : List Str := ["_law_weights", "_law_found", "_law_standing", "_law_at"]
theorem sc_law_counts : FnScope N_law_counts ["_law_weights"] (defScope s_law_counts) := ⟨rfl, rfl, rfl, by decide +kernel, rfl, by decide +kernel, by decide +kernel⟩
theorem ok_law_counts (T : Tp K mg) : FnOk P w K mg base CX0 4 (fA K "_law_counts") (fD K "_law_counts") ["_law_weights"] (sp_law_counts K) := by
  refine T.d_law_counts.F.ok sc_law_counts (fun vs H Q E h => ?_) (fun cdv A outer s H vs Q E hr h => ?_)
  · obtain ⟨_, _, _, rfl, _⟩ := h
    rfl
  · obtain ⟨c, W, n, rfl, hC, C, q⟩ := h
    refine ⟨_, PSs.nox ((pss_cons (ps_set (i := 1) sc_law_counts.nd rfl (Or.inl rfl) (pe_op op_rep (pe_lst (pa_cons (pe_tup (pa_cons pe_int (pa_cons pe_int pa_nil))) pa_nil)) (pe_op op_add (pe_call (ok_law_count_seats T) (hr.mono (by decide)) (by rfl) T.d_law_count_seats.g T.d_law_count_seats.F.kp T.b_law_count_seats .nil pass0 (pa_cons (pv 0) pa_nil)) pe_int)))
      (pss_cons (ps_for PassesOwn.never rfl (pi_range1 (by rfl) T.z_range (pa_cons (pe_callB call_len_seq (by rfl) T.z_len PySem.boot_len (pa_cons (pv 0) pa_nil)) pa_nil)) (pg_name (i := 2) sc_law_counts.nd rfl (Or.inl rfl)) (pss_cons (ps_set (i := 3) sc_law_counts.nd rfl (Or.inl rfl) (pe_call (ok_law_many T) (hr.mono (by decide)) (by rfl) T.d_law_many.g T.d_law_many.F.kp T.b_law_many .nil pass0 (pa_cons (pv 2) pa_nil)))
      (pss_one (ps_asg (pe_call (ok_law_add T) (hr.mono (by decide)) (by rfl) T.d_law_add.g T.d_law_add.F.kp T.b_law_add .nil pass0 (pa_cons (pe_ix ix_list (pv 1) (pv 3) (fun _ _ => rfl)) (pa_cons (pe_ix ix_tup (pv 0) (pv 2) (fun _ _ => rfl)) pa_nil))) (pg_sub (pv 1) (pv 3) set_list)))))
      (pss_one (ps_ret (pe_callTy call_tuple_of (by rfl) T.z_tuple (by decide +kernel) (pa_cons (pv 1) pa_nil))))))), ?_⟩
    have n5 := C.hi
    refine ⟨by show 2 ≤ sizeLine; decide, fun o ho => ⟨by show 1 ≤ sizeLine; decide, fun z hz => ?_⟩⟩
    have s0 : Same H (upd (upd H o (.tup [.int 0, .int 1])) z (.lst [.ref o])) := (same_new ho).trans (same_new hz)
    have noz : o ≠ z := ne_of_none upd_same hz
    refine ⟨_, rfl, c, W, n, rfl, hC.mono s0, C, fun H0 s01 => ?_⟩
    have eo : H0 o = some (.tup [.int 0, .int 1]) := s01 o _ (by rw [upd_ne noz]; exact upd_same)
    have ez : H0 z = some (.lst [.ref o]) := s01 z _ upd_same
    have sH0 := s0.trans s01
    refine ⟨_, _, rfl, rfl, z, _, _, rfl, rfl, ez, by omega, by omega, ?_, fun F hF => ?_⟩
    · show 1 * ((n : Int) + 1).toNat ≤ sizeLine
      exact Nat.le_trans (by omega) (show 10 ≤ sizeLine by decide)
    have s1 : Same H (upd H0 F (.lst (List.replicate ((n : Int) + 1).toNat [V.ref o]).flatten)) := sH0.trans (same_new hF)
    have hFn : H F = none := sH0.free hF
    obtain ⟨a, cs, rfl, hS0, hF0⟩ := id hC
    refine ⟨_, rfl, a, _, rfl, .inr (Same.tup s1 hS0), (cs.length : Int), rfl, by omega, ?_, for_range (lo := 0) (fun i σ H' => ∃ y2 y3 vs, σ = [some (.ref a), some (.ref F), y2, y3] ∧ Same H H' ∧ H' F = some (.lst vs) ∧ IsFs K H' vs (accW W n i))
      ⟨none, none, _, rfl, s1, upd_same, ?_⟩ ?_ ?_⟩
    · have := C.len32
      have e := hF0.1
      omega
    · have e : (List.replicate ((n : Int) + 1).toNat [V.ref o]).flatten = List.replicate (n + 1) (.ref o) := by
        rw [show ((n : Int) + 1).toNat = n + 1 by omega, List.flatten_replicate_singleton]
      rw [e, accW_zero]
      exact zeros_fs (Same.tup (same_new hF) (SqT.of eo)) (n + 1)
    · rintro i σ H' hx ⟨y2, y3, vs, rfl, s', eF, fs⟩
      have hi : i < 2 ^ n := by
        rw [Int.toNat_natCast, hF0.1, C.len] at hx
        exact hx
      have e0 : (0 : Int) + (i : Int) = (i : Int) := Int.zero_add _
      have i32 : i < 32 := Nat.lt_of_lt_of_le hi (pow32 n5)
      have hb : bitsN i ≤ n := bitsN_le n (by omega) C.lo i hi
      have hlen : vs.length = n + 1 := by rw [fs.1, accW_len]
      obtain ⟨v1, e1, f1⟩ := fs.2 (bitsN i) (by rw [accW_len]; omega)
      have hF2 := hF0.tx (Tx.of s')
      have hS := Same.tup s' hS0
      obtain ⟨v2, e2, f2⟩ := hF2.2 i (by rw [C.len]; exact hi)
      show tSeq _ _ _ [some (.ref a), some (.ref F), some (.int ((0 : Int) + (i : Int))), y3] H'
      rw [e0]
      refine ⟨_, rfl, i, rfl, by omega, ?_⟩
      refine ⟨_, rfl, _, rfl, F, vs, _, v1, rfl, rfl, SqL.of eF, atI_nat e1, _, rfl, _, rfl, a, cs, _, v2, rfl, rfl, hS, atI_nat e2, v1, v2, _, _, 1111, 110, rfl, f1, f2, accW_bd_all C (by omega) hb, (C.at_ (by rw [C.len]; exact hi)).bd, by omega, fun H3 v s3 f3 => ?_⟩
      have eF3 := s3 F _ eF
      have t3 : Tx H' (upd H3 F (.lst (vs.set (bitsN i) v))) := (Tx.of s3).trans (Tx.lst eF3)
      refine ⟨_, rfl, _, rfl, F, vs, _, bitsN i, rfl, rfl, eF3, ixN_nat (by omega), ?_⟩
      refine ⟨some (.int (i : Int)), some (.int (bitsN i : Nat)), vs.set (bitsN i) v, rfl, Same.mut (s'.trans s3) hFn, upd_same, ?_⟩
      rw [accW_succ]
      exact (fs.tx t3).set (f3.tx (Tx.lst eF3)) (bitsN i)
    · rintro σ H' ⟨y2, y3, vs, rfl, s', eF, fs⟩
      rw [Int.toNat_natCast, hF0.1, C.len] at fs
      refine ⟨_, rfl, F, vs, rfl, .inl ⟨SqL.of eF, fun l hl => q _ _ (s'.trans (same_new hl)) ⟨l, vs, rfl, SqT.of upd_same, fs.tx (Tx.of (same_new hl))⟩⟩⟩
end
end G7
end

section
set_option Elab.async false
set_option linter.all false
set_option maxRecDepth 100000
set_option maxHeartbeats 4000000
namespace G7
open PySem PySem.Spec PyProof.Rows L2
/-- pairs in a list -/
def IsPs (K : PySem.W.Frag) (H : Hp) (vs : List V) (ps : List (Nat × Nat)) : Prop := vs.length = ps.length ∧ ∀ (i : Nat) p, ps[i]? = some p → ∃ v, vs[i]? = some v ∧ IsP K H v (some p)
theorem IsPs.tx {K : PySem.W.Frag} {H H' : Hp} {vs : List V} {ps : List (Nat × Nat)} (h : IsPs K H vs ps) (s : Tx H H') : IsPs K H' vs ps :=
  ⟨h.1, fun i p e => by
    obtain ⟨v, ev, pv⟩ := h.2 i p e
    exact ⟨v, ev, pv.tx s⟩⟩
theorem IsPs.snoc {K : PySem.W.Frag} {H : Hp} {vs : List V} {ps : List (Nat × Nat)} {v : V} {p : Nat × Nat} (h : IsPs K H vs ps) (f : IsP K H v (some p)) : IsPs K H (vs ++ [v]) (ps ++ [p]) := by
  refine ⟨by rw [List.length_append, List.length_append, h.1]; rfl, fun i q e => ?_⟩
  by_cases hi : i < ps.length
  · rw [List.getElem?_append_left hi] at e
    obtain ⟨u, eu, fu⟩ := h.2 i q e
    exact ⟨u, by rw [List.getElem?_append_left (by rw [h.1]; exact hi)]; exact eu, fu⟩
  · rw [List.getElem?_append_right (by omega)] at e
    have ei : i - ps.length = 0 := by
      cases z : i - ps.length with
      | zero => rfl
      | succ m =>
        rw [z] at e
        cases e
    rw [ei] at e
    cases e
    refine ⟨v, ?_, f⟩
    rw [List.getElem?_append_right (by rw [h.1]; omega), h.1, ei]
    rfl
def IsPL (K : PySem.W.Frag) (H : Hp) (l : Addr) (ps : List (Nat × Nat)) : Prop := ∃ vs, H l = some (.lst vs) ∧ IsPs K H vs ps
theorem IsPL.mono {K : PySem.W.Frag} {H H' : Hp} {l : Addr} {ps : List (Nat × Nat)} (h : IsPL K H l ps) (s : Same H H') : IsPL K H' l ps := by
  obtain ⟨vs, e, f⟩ := h
  exact ⟨vs, s _ _ e, f.tx (Tx.of s)⟩
/-- a vat in the heap -/
def Vt (H : Hp) (a : Addr) : Prop := ∃ p q r : Int, H a = some (.lst [.int p, .int q, .int r])
theorem Vt.mono {H H' : Hp} {a : Addr} (h : Vt H a) (s : Same H H') : Vt H' a := by
  obtain ⟨p, q, r, e⟩ := h
  exact ⟨p, q, r, s _ _ e⟩
theorem Vt.tx {H H' : Hp} {a : Addr} (h : Vt H a) (s : Sb a H H') : Tx H H' := by
  obtain ⟨p, q, r, e⟩ := h
  exact s.tx e
section
variable {P : Program} {w : World} {K : PySem.W.Frag} {mg : Str → Option Value} {base : Heap}
def sp_law_bars (K : PySem.W.Frag) : Sp := fun vs H Q _ => ∃ (c : V) (R : List Q2) (n k i j : Nat), vs = [c, .int (i : Int), .int (k : Int), .int (j : Int)] ∧ IsC K H c R ∧ Row n R ∧ i < k ∧ k < j ∧ j ≤ n ∧ ∀ H', Same H H' → Q (.bl (barsF R k i j)) H'
abbrev N_law_bars : List Str := ["_law_counts_here", "_law_low_here", "_law_number", "_law_high", "_law_one"]
theorem sc_law_bars : FnScope N_law_bars ["_law_counts_here", "_law_low_here", "_law_number", "_law_high"] (defScope s_law_bars) := ⟨rfl, rfl, rfl, by decide +kernel, rfl, by decide +kernel, by decide +kernel⟩
theorem ok_law_bars (T : Tp K mg) : FnOk P w K mg base CX0 4 (fA K "_law_bars") (fD K "_law_bars") ["_law_counts_here", "_law_low_here", "_law_number", "_law_high"] (sp_law_bars K) := by
  refine T.d_law_bars.F.ok sc_law_bars (fun vs H Q E h => ?_) (fun cdv A outer s H vs Q E hr h => ?_)
  · obtain ⟨_, _, _, _, _, _, rfl, _⟩ := h
    rfl
  · obtain ⟨_, R, n, k, i, j, rfl, ⟨a, vs, rfl, eR, fR⟩, hW, ik, kj, jn, q⟩ := h
    refine ⟨_, PSs.nox ((pss_cons (ps_set (i := 4) sc_law_bars.nd rfl (Or.inl rfl) (pe_call (ok_law_mul T) (hr.mono (by decide)) (by rfl) T.d_law_mul.g T.d_law_mul.F.kp T.b_law_mul .nil pass0 (pa_cons (pe_call (ok_law_raised T) (hr.mono (by decide)) (by rfl) T.d_law_raised.g T.d_law_raised.F.kp T.b_law_raised .nil pass0 (pa_cons (pe_ix ix_tup (pv 0) (pv 1) (fun _ _ => rfl)) (pa_cons (pe_op op_sub (pv 3) (pv 2)) pa_nil))) (pa_cons (pe_call (ok_law_raised T) (hr.mono (by decide)) (by rfl) T.d_law_raised.g T.d_law_raised.F.kp T.b_law_raised .nil pass0 (pa_cons (pe_ix ix_tup (pv 0) (pv 3) (fun _ _ => rfl)) (pa_cons (pe_op op_sub (pv 2) (pv 1)) pa_nil))) pa_nil))))
      (pss_one (ps_ret (pe_call (ok_law_under T) (hr.mono (by decide)) (by rfl) T.d_law_under.g T.d_law_under.F.kp T.b_law_under .nil pass0 (pa_cons (pe_call (ok_law_raised T) (hr.mono (by decide)) (by rfl) T.d_law_raised.g T.d_law_raised.F.kp T.b_law_raised .nil pass0 (pa_cons (pe_ix ix_tup (pv 0) (pv 2) (fun _ _ => rfl)) (pa_cons (pe_op op_sub (pv 3) (pv 1)) pa_nil))) (pa_cons (pv 4) pa_nil))))))), ?_⟩
    have n5 := hW.hi
    have ej : (j : Int) - (i : Int) = ((j - i : Nat) : Int) := by omega
    have ek : (j : Int) - (k : Int) = ((j - k : Nat) : Int) := by omega
    have ei : (k : Int) - (i : Int) = ((k - i : Nat) : Int) := by omega
    obtain ⟨v2, e2, f2⟩ := fR.get (i := i) (by rw [hW.len]; omega)
    refine ⟨_, rfl, _, rfl, a, vs, _, v2, rfl, rfl, eR, e2, _, rfl, _, rfl, _, _, rfl, rfl, v2, _, 1111, j - k, ?_, f2, hW.bd i (by omega), by decide, by decide, by omega, fun H2 x s2 m2 => ?_⟩
    · show [v2, V.int ((j : Int) - (k : Int))] = _
      rw [ek]
    have eR2 := Same.tup s2 eR
    have fR2 := fR.tx (Tx.of s2)
    obtain ⟨v3, e3, f3⟩ := fR2.get (i := j) (by rw [hW.len]; omega)
    refine ⟨_, rfl, _, rfl, a, vs, _, v3, rfl, rfl, eR2, e3, _, rfl, _, rfl, _, _, rfl, rfl, v3, _, 1111, k - i, ?_, f3, hW.bd j jn, by decide, by decide, by omega, fun H3 y s3 m3 => ?_⟩
    · show [v3, V.int ((k : Int) - (i : Int))] = _
      rw [ei]
    have b2 := powF_bd (hW.bd i (by omega)) (by decide) (j - k)
    have b3 := powF_bd (hW.bd j jn) (by decide) (k - i)
    have b1 := powF_bd (hW.bd k (by omega)) (by decide) (j - i)
    refine ⟨x, y, _, _, _, _, rfl, m2.mono s3, m3, b2, b3, by omega, fun H4 c s4 m4 => ?_⟩
    have eR4 := Same.tup (s3.trans s4) eR2
    have fR4 := fR2.tx (Tx.of (s3.trans s4))
    obtain ⟨v1, e1, f1⟩ := fR4.get (i := k) (by rw [hW.len]; omega)
    refine ⟨_, rfl, _, rfl, a, vs, _, v1, rfl, rfl, eR4, e1, _, rfl, _, rfl, _, _, rfl, rfl, v1, _, 1111, j - i, ?_, f1, hW.bd k (by omega), by decide, by decide, by omega, fun H5 mine s5 m5 => ?_⟩
    · show [v1, V.int ((j : Int) - (i : Int))] = _
      rw [ej]
    refine ⟨_, rfl, mine, c, _, _, _, _, rfl, m5, m4.mono s5, b1, mulF_bd b2 b3, by omega, ?_⟩
    exact q H5 (((s2.trans s3).trans s4).trans s5)
def sp_law_barring (K : PySem.W.Frag) : Sp := fun vs H Q _ => ∃ (c : V) (R : List Q2) (n k : Nat), vs = [c, .int (k : Int)] ∧ IsC K H c R ∧ Row n R ∧ k ≤ n ∧ ∀ H' l, Same H H' → H l = none → IsPL K H' l (barL R k) → Q (.ref l) H'
abbrev N_law_barring : List Str := ["_law_counts_here", "_law_number", "_law_found", "_law_low_here", "_law_high"]
theorem sc_law_barring : FnScope N_law_barring ["_law_counts_here", "_law_number"] (defScope s_law_barring) := ⟨rfl, rfl, rfl, by decide +kernel, rfl, by decide +kernel, by decide +kernel⟩
theorem ok_law_barring (T : Tp K mg) : FnOk P w K mg base CX0 5 (fA K "_law_barring") (fD K "_law_barring") ["_law_counts_here", "_law_number"] (sp_law_barring K) := by
  refine T.d_law_barring.F.ok sc_law_barring (fun vs H Q E h => ?_) (fun cdv A outer s H vs Q E hr h => ?_)
  · obtain ⟨_, _, _, _, rfl, _⟩ := h
    rfl
  · obtain ⟨c, R, n, k, rfl, hC, hW, kn, q⟩ := h
    obtain ⟨a, cs, rfl, hS, hF⟩ := id hC
    refine ⟨_, PSs.nox ((pss_cons (ps_set (i := 2) sc_law_barring.nd rfl (Or.inl rfl) (pe_lst pa_nil))
      (pss_cons (ps_for PassesOwn.never rfl (pi_range1 (by rfl) T.z_range (pa_cons (pv 1) pa_nil)) (pg_name (i := 3) sc_law_barring.nd rfl (Or.inl rfl)) (pss_one (ps_for PassesOwn.never rfl (pi_range2 (by rfl) T.z_range (pa_cons (pe_op op_add (pv 1) pe_int) (pa_cons (pe_callB call_len_seq (by rfl) T.z_len PySem.boot_len (pa_cons (pv 0) pa_nil)) pa_nil))) (pg_name (i := 4) sc_law_barring.nd rfl (Or.inl rfl)) (pss_one (ps_if (pt_val (pe_call (ok_law_bars T) (hr.mono (by decide)) (by rfl) T.d_law_bars.g T.d_law_bars.F.kp T.b_law_bars .nil pass0 (pa_cons (pv 0) (pa_cons (pv 3) (pa_cons (pv 1) (pa_cons (pv 4) pa_nil)))))) (pss_one (ps_expr (pe_bm PySem.F.plainAttrs_list PySem.F.slot_list_append PySem.F.type_list_append mt_append (pv 2) (pa_cons (pe_tup (pa_cons (pv 3) (pa_cons (pv 4) pa_nil))) pa_nil)))) pss_nil)))))
      (pss_one (ps_ret (pv 2)))))), ?_⟩
    have n5 := hW.hi
    have hl := hW.len
    have hcl : cs.length = n + 1 := by rw [hF.1, hl]
    refine ⟨by show 0 ≤ sizeLine; decide, fun F hFn => ?_⟩
    refine ⟨_, rfl, (k : Int), rfl, by omega, by omega, for_range (lo := 0) (fun i σ H' => ∃ y3 y4 vs, σ = [some (.ref a), some (.int (k : Int)), some (.ref F), y3, y4] ∧ Same H H' ∧ H' F = some (.lst vs) ∧ vs.length ≤ 6 * i ∧ IsPs K H' vs ((ahead R.length k i 0).filter fun p => barsF R k p.1 p.2)) ⟨none, none, [], rfl, same_new hFn, upd_same, Nat.zero_le _, rfl, fun i p e => by cases e⟩ ?_ ?_⟩
    · rintro i σ H' hi ⟨y3, y4, vs, rfl, s', eF, vl, ps⟩
      rw [Int.toNat_natCast] at hi
      have e0 : (0 : Int) + (i : Int) = (i : Int) := Int.zero_add _
      show tFor _ _ _ _ [some (.ref a), some (.int (k : Int)), some (.ref F), some (.int ((0 : Int) + (i : Int))), y4] H'
      rw [e0]
      refine ⟨_, rfl, _, _, rfl, rfl, _, rfl, a, cs, rfl, .inr (Same.tup s' hS), (k : Int) + 1, (cs.length : Int), rfl, by omega, for_range (lo := (k : Int) + 1) (fun d σ H2 => ∃ y4 vs, σ = [some (.ref a), some (.int (k : Int)), some (.ref F), some (.int (i : Int)), y4] ∧ Same H H2 ∧ H2 F = some (.lst vs) ∧ vs.length ≤ 6 * i + d ∧ IsPs K H2 vs ((ahead R.length k i d).filter fun p => barsF R k p.1 p.2)) ⟨y4, vs, rfl, s', eF, vl, ps⟩ ?_ ?_⟩
      · rintro d σ H2 hd ⟨y4, vs, rfl, s2, eF2, vl2, ps2⟩
        have hdl : d < R.length - (k + 1) := by omega
        have ed : (k : Int) + 1 + (d : Int) = ((k + 1 + d : Nat) : Int) := by omega
        show tIfS _ _ _ _ [some (.ref a), some (.int (k : Int)), some (.ref F), some (.int (i : Int)), some (.int ((k : Int) + 1 + (d : Int)))] H2
        rw [ed]
        refine ⟨_, rfl, _, rfl, _, rfl, _, rfl, .ref a, R, n, k, i, k + 1 + d, rfl, hC.mono s2, hW, hi, by omega, by omega, fun H3 s3 => ⟨_, rfl, ?_⟩⟩
        have eF3 := s3 F _ eF2
        rw [ahead_next, List.filter_append]
        cases e : barsF R k i (k + 1 + d) with
        | true =>
          refine iteT ⟨_, rfl, .inl ⟨rfl, _, SqL.of eF3⟩, _, rfl, _, rfl, by show 2 ≤ sizeLine; decide, fun p hp => ?_⟩
          have eF4 := same_new (o := .tup [.int (i : Int), .int ((k + 1 + d : Nat) : Int)]) hp F _ eF3
          refine ⟨F, _, _, rfl, rfl, eF4, Nat.lt_of_le_of_lt vl2 (Nat.lt_of_lt_of_le (show 6 * i + d < 100 by omega) (by decide)), ?_⟩
          refine ⟨some (.int ((k + 1 + d : Nat) : Int)), _, rfl, Same.mut ((s2.trans s3).trans (same_new hp)) hFn, upd_same, by rw [List.length_append]; exact Nat.succ_le_succ vl2, ?_⟩
          have ef : [(i, k + 1 + d)].filter (fun p => barsF R k p.1 p.2) = [(i, k + 1 + d)] := by
            rw [List.filter_cons, if_pos e]
            rfl
          rw [ef]
          have np : F ≠ p := ne_of_none eF3 hp
          refine IsPs.snoc (ps2.tx ((Tx.of (s3.trans (same_new hp))).trans (Tx.lst eF4))) ⟨p, rfl, SqT.of ?_⟩
          rw [upd_ne np.symm]
          exact upd_same
        | false =>
          have ef : [(i, k + 1 + d)].filter (fun p => barsF R k p.1 p.2) = [] := by
            rw [List.filter_cons, if_neg (by rw [e]; decide)]
            rfl
          rw [ef, List.append_nil]
          exact iteF ⟨some (.int ((k + 1 + d : Nat) : Int)), vs, rfl, s2.trans s3, eF3, by omega, ps2.tx (Tx.of s3)⟩
      · rintro σ H2 ⟨y4, vs, rfl, s2, eF2, vl2, ps2⟩
        rw [show ((cs.length : Int) - ((k : Int) + 1)).toNat = R.length - (k + 1) by omega] at vl2 ps2
        rw [ahead_row] at ps2
        exact ⟨some (.int (i : Int)), y4, vs, rfl, s2, eF2, by omega, ps2⟩
    · rintro σ H' ⟨y3, y4, vs, rfl, s', eF, vl, ps⟩
      rw [Int.toNat_natCast, ahead_all] at ps
      exact ⟨_, rfl, q H' F s' hFn ⟨vs, eF, ps⟩⟩
/-! ### the vat -/
theorem int_of_cut {ns : List Int} {lo hi : Option Int} {i : Nat} {x : V} (h : (cutV (ns.map V.int) lo hi)[i]? = some x) : ∃ z : Int, x = .int z := by
  have m := List.mem_of_getElem? h
  unfold cutV at m
  obtain ⟨z, _, e⟩ := List.mem_map.mp (List.mem_of_mem_drop (List.mem_of_mem_take m))
  exact ⟨z, e.symm⟩
def sp_law_vat (K : PySem.W.Frag) : Sp := fun vs H Q _ => ∃ (a : Addr) (ns : List Int) (l : Nat), vs = [.ref a, .int (l : Int)] ∧ SqL K H a (ns.map V.int) ∧ ns.length ≤ 63 ∧ l ≤ 1000 ∧ ∀ H' v, Same H H' → H v = none → Vt H' v → Q (.ref v) H'
abbrev N_law_vat : List Str := ["_law_script", "_law_lap", "_law_mixed", "_law_cell"]
theorem sc_law_vat : FnScope N_law_vat ["_law_script", "_law_lap"] (defScope s_law_vat) := ⟨rfl, rfl, rfl, by decide +kernel, rfl, by decide +kernel, by decide +kernel⟩
theorem ok_law_vat (T : Tp K mg) : FnOk P w K mg base CX0 1 (fA K "_law_vat") (fD K "_law_vat") ["_law_script", "_law_lap"] (sp_law_vat K) := by
  refine T.d_law_vat.F.ok sc_law_vat (fun vs H Q E h => ?_) (fun cdv A outer s H vs Q E hr h => ?_)
  · obtain ⟨_, _, _, rfl, _⟩ := h
    rfl
  · obtain ⟨a, ns, l, rfl, hS, n63, l1000, q⟩ := h
    refine ⟨_, PSs.nox ((pss_cons (ps_set (i := 2) sc_law_vat.nd rfl (Or.inl rfl) (pe_op op_add pe_int (pe_op op_mul pe_int (pv 1))))
      (pss_cons (ps_for PassesOwn.never rfl (pi_list (pe_slice sl_list (pv 0) po_none (po_some pe_int))) (pg_name (i := 3) sc_law_vat.nd rfl (Or.inl rfl)) (pss_one (ps_set (i := 2) sc_law_vat.nd rfl (Or.inl rfl) (pe_op op_mod (pe_callTy call_int1 (by rfl) T.z_int (by decide +kernel) (pa_cons (pe_op op_add (pe_op op_add (pe_op op_mul (pv 2) pe_int) (pe_op op_mod (pe_callTy call_int1 (by rfl) T.z_int (by decide +kernel) (pa_cons (pv 3) pa_nil)) pe_int)) pe_int) pa_nil)) pe_int))))
      (pss_cons (ps_set (i := 3) sc_law_vat.nd rfl (Or.inl rfl) (pe_ifExp (pt_cmpR op_lt (pv 1) (pe_callB call_len_seq (by rfl) T.z_len PySem.boot_len (pa_cons (pv 0) pa_nil)) (nomark _)) (pe_callB call_abs (by rfl) T.z_abs (by decide +kernel) (pa_cons (pe_callTy call_int1 (by rfl) T.z_int (by decide +kernel) (pa_cons (pe_ix ix_list (pv 0) (pv 1) (fun _ _ => rfl)) pa_nil)) pa_nil)) pe_int))
      (pss_one (ps_ret (pe_lst (pa_cons (pe_ifExp (pt_cmpR op_ge (pv 3) (pe_op op_pow pe_int pe_int) (nomark _)) (pv 3) pe_int) (pa_cons (pe_op op_add (pv 2) (pe_op op_mul pe_int (pe_op op_mod (pe_callTy call_int1 (by rfl) T.z_int (by decide +kernel) (pa_cons (pv 3) pa_nil)) pe_int))) (pa_cons pe_int pa_nil)))))))))), ?_⟩
    refine ⟨_, rfl, _, _, rfl, rfl, .inl ⟨by decide, by decide⟩, _, _, rfl, rfl, ?_⟩
    refine ⟨_, rfl, 63, rfl, a, _, rfl, hS, fun p hp => ⟨p, rfl, ⟨_, SqL.of upd_same⟩, for_list (K := K) (a := p) (xs := cutV (ns.map V.int) none (some 63)) (fun i σ H' => ∃ (m : Int) (y3 : Option V), σ = [some (.ref a), some (.int (l : Int)), some (.int m), y3] ∧ H' = upd H p (.lst (cutV (ns.map V.int) none (some 63)))) ⟨_, none, rfl, rfl⟩ (fun i σ H' _ h => ?_) ?_ ?_⟩⟩
    · obtain ⟨_, _, _, rfl⟩ := h
      exact SqL.of upd_same
    · rintro i x σ H' hx ⟨m, y3, rfl, rfl⟩
      obtain ⟨z, rfl⟩ := int_of_cut hx
      refine ⟨_, rfl, _, _, rfl, rfl, .inr ⟨by decide, by decide⟩, _, rfl, .inl ⟨_, rfl, _, _, rfl, rfl, (by show (0 : Int) < 1899999877; decide), _, _, rfl, rfl, _, _, rfl, rfl, .inl ⟨_, rfl, _, _, rfl, rfl, (by show (0 : Int) < 2147483579; decide), _, _, rfl, rfl⟩⟩⟩
    · rintro σ H' ⟨m, y3, rfl, rfl⟩
      have sP : Same H (upd H p (.lst (cutV (ns.map V.int) none (some 63)))) := same_new hp
      refine ⟨_, rfl, _, rfl, a, _, rfl, .inl (Same.seq sP hS), _, _, rfl, rfl, _, rfl, ite2 (fun e => ?_) (fun e => ?_)⟩
      · have hl : l < ns.length := by
          have h1 := of_decide_eq_true e
          rw [List.length_map] at h1
          omega
        have ea : atI (ns.map V.int) (l : Int) = some (.int ns[l]) := atI_nat (by rw [List.getElem?_map, List.getElem?_eq_getElem hl]; rfl)
        refine ⟨_, rfl, _, rfl, a, _, _, _, rfl, rfl, Same.seq sP hS, ea, .inl ⟨_, rfl, _, rfl, ?_⟩⟩
        refine ⟨_, rfl, _, _, rfl, rfl, ⟨by decide, by decide, by decide⟩, _, _, rfl, rfl, _, rfl, ite2 (fun e => ?_) (fun e => ?_)⟩
        · refine ⟨_, rfl, _, rfl, _, rfl, .inl ⟨_, rfl, _, _, rfl, rfl, (by show (0 : Int) < 190000021; decide), _, _, rfl, rfl, .inl ⟨by decide, by decide⟩, _, _, rfl, rfl, by show 3 ≤ sizeLine; decide, fun v hv => ?_⟩⟩
          exact q _ v (sP.trans (same_new hv)) (sP.free hv) ⟨_, _, _, upd_same⟩
        · refine ⟨_, rfl, _, rfl, .inl ⟨_, rfl, _, _, rfl, rfl, (by show (0 : Int) < 190000021; decide), _, _, rfl, rfl, .inl ⟨by decide, by decide⟩, _, _, rfl, rfl, by show 3 ≤ sizeLine; decide, fun v hv => ?_⟩⟩
          exact q _ v (sP.trans (same_new hv)) (sP.free hv) ⟨_, _, _, upd_same⟩
      · skip
        refine ⟨_, rfl, _, _, rfl, rfl, ⟨by decide, by decide, by decide⟩, _, _, rfl, rfl, _, rfl, ite2 (fun e => ?_) (fun e => ?_)⟩
        · refine ⟨_, rfl, _, rfl, _, rfl, .inl ⟨_, rfl, _, _, rfl, rfl, (by show (0 : Int) < 190000021; decide), _, _, rfl, rfl, .inl ⟨by decide, by decide⟩, _, _, rfl, rfl, by show 3 ≤ sizeLine; decide, fun v hv => ?_⟩⟩
          exact q _ v (sP.trans (same_new hv)) (sP.free hv) ⟨_, _, _, upd_same⟩
        · refine ⟨_, rfl, _, rfl, .inl ⟨_, rfl, _, _, rfl, rfl, (by show (0 : Int) < 190000021; decide), _, _, rfl, rfl, .inl ⟨by decide, by decide⟩, _, _, rfl, rfl, by show 3 ≤ sizeLine; decide, fun v hv => ?_⟩⟩
          exact q _ v (sP.trans (same_new hv)) (sP.free hv) ⟨_, _, _, upd_same⟩
end
end G7
end

section
set_option Elab.async false
set_option linter.all false
set_option maxRecDepth 100000
set_option maxHeartbeats 4000000
namespace G7
open PySem PySem.Spec PyProof.Rows L2
theorem choose_fs {K : PySem.W.Frag} {H : Hp} : ∀ {ys : List V} {R : Nat → Q2 → Prop}, (∀ (i : Nat) y, ys[i]? = some y → ∃ q, IsF K H y q ∧ R i q) → ∃ W, IsFs K H ys W ∧ ∀ (i : Nat) q, W[i]? = some q → R i q
  | [], _, _ => ⟨[], ⟨rfl, fun i h => by cases h⟩, fun i q e => by cases e⟩
  | y :: ys, R, h => by
    obtain ⟨q0, f0, r0⟩ := h 0 y rfl
    obtain ⟨W, fs, rs⟩ := choose_fs (ys := ys) (R := fun i => R (i + 1)) fun i z e => h (i + 1) z e
    refine ⟨q0 :: W, ⟨by rw [List.length_cons, List.length_cons, fs.1], fun i hi => ?_⟩, fun i q e => ?_⟩
    · cases i with
      | zero => exact ⟨y, rfl, f0⟩
      | succ m => exact fs.2 m (Nat.lt_of_succ_lt_succ hi)
    · cases i with
      | zero =>
        cases e
        exact r0
      | succ m => exact rs m q e
section
variable {P : Program} {w : World} {K : PySem.W.Frag} {mg : Str → Option Value} {base : Heap}
def sp_sip : Sp := fun vs H Q _ => ∃ (a : Addr) (z : Nat), vs = [.ref a, .int (z : Int)] ∧ Vt H a ∧ 0 < z ∧ z < 1073741824 ∧ ∀ H' (r : Nat), Sb a H H' → Vt H' a → r < z → Q (.int (r : Int)) H'
abbrev N_law_sip : List Str := ["_law_vat_here", "_law_size", "_law_figure", "_law_start"]
theorem sc_law_sip : FnScope N_law_sip ["_law_vat_here", "_law_size"] (defScope s_law_sip) := ⟨rfl, rfl, rfl, by decide +kernel, rfl, by decide +kernel, by decide +kernel⟩
theorem ok_law_sip (T : Tp K mg) : FnOk P w K mg base CX0 1 (fA K "_law_sip") (fD K "_law_sip") ["_law_vat_here", "_law_size"] sp_sip := by
  refine T.d_law_sip.F.ok sc_law_sip (fun vs H Q E h => ?_) (fun cdv A outer s H vs Q E hr h => ?_)
  · obtain ⟨_, _, rfl, _⟩ := h
    rfl
  · obtain ⟨a, z, rfl, ⟨p, q1, r, eV⟩, z0, zb, k⟩ := h
    have out : ∀ x : Int, ∃ m : Nat, (m : Int) = x % (z : Int) ∧ m < z := fun x => by
      have h1 := Int.emod_nonneg x (show (z : Int) ≠ 0 by omega)
      have h2 := Int.emod_lt_of_pos x (nat_pos z0)
      exact ⟨(x % (z : Int)).toNat, Int.toNat_of_nonneg h1, by omega⟩
    refine ⟨_, PSs.nox ((pss_cons (ps_if (pt_cmpR op_gt (pe_ix ix_list (pv 0) pe_int (fun _ _ => rfl)) pe_int (nomark _)) (pss_cons (ps_asg (pe_callB call_divmod (by rfl) T.z_divmod (by decide +kernel) (pa_cons (pe_ix ix_list (pv 0) pe_int (fun _ _ => rfl)) (pa_cons (pv 1) pa_nil))) (pg_tup rfl (pgs_cons (pg_sub (pv 0) pe_int set_list) (pgs_cons (pg_name (i := 2) sc_law_sip.nd rfl (Or.inl rfl)) pgs_nil))))
      (pss_one (ps_ret (pv 2)))) pss_nil)
      (pss_cons (ps_asg (pe_op op_add (pe_ix ix_list (pv 0) pe_int (fun _ _ => rfl)) pe_int) (pg_sub (pv 0) pe_int set_list))
      (pss_cons (ps_set (i := 3) sc_law_sip.nd rfl (Or.inl rfl) (pe_op op_mod (pe_callTy call_int1 (by rfl) T.z_int (by decide +kernel) (pa_cons (pe_op op_add (pe_op op_add (pe_ix ix_list (pv 0) pe_int (fun _ _ => rfl)) (pe_op op_mul pe_int (pe_ix ix_list (pv 0) pe_int (fun _ _ => rfl)))) pe_int) pa_nil)) pe_int))
      (pss_cons (ps_asg (pe_op op_mod (pe_callTy call_int1 (by rfl) T.z_int (by decide +kernel) (pa_cons (pe_op op_add (pe_op op_mul (pv 3) (pe_op op_add (pe_op op_mod (pe_callTy call_int1 (by rfl) T.z_int (by decide +kernel) (pa_cons (pv 3) pa_nil)) pe_int) pe_int)) (pe_op op_mul pe_int (pe_ix ix_list (pv 0) pe_int (fun _ _ => rfl)))) pa_nil)) pe_int) (pg_sub (pv 0) pe_int set_list))
      (pss_one (ps_ret (pe_op op_mod (pe_callTy call_int1 (by rfl) T.z_int (by decide +kernel) (pa_cons (pe_op op_fdiv (pe_ix ix_list (pv 0) pe_int (fun _ _ => rfl)) pe_int) pa_nil)) (pv 1))))))))), ?_⟩
    refine ⟨_, rfl, a, _, _, _, rfl, rfl, SqL.of eV, rfl, _, _, rfl, rfl, _, rfl, ite2 (fun _ => ?_) (fun _ => ?_)⟩
    · refine ⟨_, rfl, a, _, _, _, rfl, rfl, SqL.of eV, rfl, _, rfl, _, _, rfl, ⟨nat_pos z0, by omega⟩, fun t ht => ?_⟩
      have nt : a ≠ t := ne_of_none eV ht
      refine ⟨t, _, rfl, SqT.of upd_same, rfl, _, _, rfl, _, rfl, a, _, 0, 0, rfl, rfl, Eq.trans (upd_ne nt) eV, rfl, _, _, rfl, rfl, _, rfl, ?_⟩
      obtain ⟨m, em, hm⟩ := out p
      show Q (.int (p % (z : Int))) _
      rw [← em]
      exact k _ m ((Sb.of (same_new ht)).trans Sb.upd) ⟨_, _, _, upd_same⟩ hm
    · refine ⟨_, rfl, a, _, _, _, rfl, rfl, SqL.of eV, rfl, _, _, rfl, rfl, _, rfl, a, _, 2, 2, rfl, rfl, eV, rfl, ?_⟩
      refine ⟨_, rfl, a, _, _, _, rfl, rfl, SqL.of upd_same, rfl, _, rfl, a, _, _, _, rfl, rfl, SqL.of upd_same, rfl, _, _, rfl, rfl, .inl ⟨by decide, by decide⟩, _, _, rfl, rfl, _, _, rfl, rfl, .inl ⟨_, rfl, _, _, rfl, rfl, (by show (0 : Int) < 2147483579; decide), ?_⟩⟩
      have sb1 : ∀ x : Int, 0 ≤ x % 2147483579 ∧ x % 2147483579 < 2147483579 := fun x => ⟨Int.emod_nonneg _ (by decide), Int.emod_lt_of_pos _ (by decide)⟩
      refine ⟨_, rfl, _, rfl, .inl ⟨_, rfl, _, _, rfl, rfl, (by show (0 : Int) < 4421; decide), _, _, rfl, rfl, _, _, rfl, rfl, .inl ?_, _, rfl, a, _, _, _, rfl, rfl, SqL.of upd_same, rfl, _, _, rfl, rfl, .inl ⟨by decide, by decide⟩, _, _, rfl, rfl, .inl ⟨_, rfl, _, _, rfl, rfl, (by show (0 : Int) < 2147483579; decide), ?_⟩⟩⟩
      · have := sb1 (q1 + 83093 * (r + 1) + 5)
        show -(2 ^ 64) < (q1 + 83093 * (r + 1) + 5) % 2147483579 ∧ (q1 + 83093 * (r + 1) + 5) % 2147483579 < 2 ^ 64
        omega
      · refine ⟨_, rfl, a, _, 1, 1, rfl, rfl, upd_same, rfl, ?_⟩
        refine ⟨_, rfl, a, _, _, _, rfl, rfl, SqL.of upd_same, rfl, _, _, rfl, rfl, ⟨by decide, by decide⟩, .inl ⟨_, rfl, _, rfl, _, _, rfl, rfl, nat_pos z0, ?_⟩⟩
        generalize (_ : Int) / 103 = y
        obtain ⟨m, em, hm⟩ := out y
        show Q (.int (y % (z : Int))) _
        rw [← em]
        exact k _ m (Sb.upd.trans Sb.upd) ⟨_, _, _, upd_same⟩ hm
def sp_law_of (K : PySem.W.Frag) : Sp := fun vs H Q _ => ∃ (a l : Addr) (xs : List V), vs = [.ref a, .ref l] ∧ Vt H a ∧ l ≠ a ∧ H l = some (.lst xs) ∧ 0 < xs.length ∧ xs.length ≤ 1000 ∧ ∀ H' (i : Nat) v, Sb a H H' → Vt H' a → xs[i]? = some v → Q v H'
abbrev N_law_of : List Str := ["_law_vat_here", "_law_some_here"]
theorem sc_law_of : FnScope N_law_of ["_law_vat_here", "_law_some_here"] (defScope s_law_of) := ⟨rfl, rfl, rfl, by decide +kernel, rfl, by decide +kernel, by decide +kernel⟩
theorem ok_law_of (T : Tp K mg) : FnOk P w K mg base CX0 2 (fA K "_law_of") (fD K "_law_of") ["_law_vat_here", "_law_some_here"] (sp_law_of K) := by
  refine T.d_law_of.F.ok sc_law_of (fun vs H Q E h => ?_) (fun cdv A outer s H vs Q E hr h => ?_)
  · obtain ⟨_, _, _, rfl, _⟩ := h
    rfl
  · obtain ⟨a, l, xs, rfl, hV, la, eL, x0, xb, k⟩ := h
    refine ⟨_, PSs.nox ((pss_one (ps_ret (pe_ix ix_list (pv 1) (pe_call (ok_law_sip T) (hr.mono (by decide)) (by rfl) T.d_law_sip.g T.d_law_sip.F.kp T.b_law_sip .nil pass0 (pa_cons (pv 0) (pa_cons (pe_callB call_len_seq (by rfl) T.z_len PySem.boot_len (pa_cons (pv 1) pa_nil)) pa_nil))) (fun _ _ => rfl))))), ?_⟩
    refine ⟨_, rfl, _, rfl, _, rfl, l, _, rfl, .inl (SqL.of eL), a, xs.length, rfl, hV, x0, by omega, fun H1 r s1 hV1 hr1 => ?_⟩
    exact ⟨l, xs, _, xs[r], rfl, rfl, SqL.of (s1 l _ la eL), atI_nat (List.getElem?_eq_getElem hr1), k H1 r _ s1 hV1 (List.getElem?_eq_getElem hr1)⟩
end
end G7
end

section
set_option Elab.async false
set_option linter.all false
set_option maxRecDepth 100000
set_option maxHeartbeats 4000000
namespace G7
open PySem PySem.Spec PyProof.Rows L2
/-- the items so far, a vat changing beside them -/
def ItV (a : Addr) (H1 : Hp) (D : Addr) (Pr : Nat → V → Hp → Prop) (i : Nat) (H : Hp) : Prop := Sb a H1 H ∧ Vt H a ∧ ∃ ys, H D = some (.lst ys) ∧ ys.length = i ∧ ∀ (j : Nat) y, ys[j]? = some y → Pr j y H
theorem itv_turn {a : Addr} {H1 H : Hp} {D : Addr} {Pr : Nat → V → Hp → Prop} (mono : ∀ j y H2 H3, Tx H2 H3 → Pr j y H2 → Pr j y H3) (hD : H1 D = none) (da : D ≠ a) {i : Nat} (hi : i < 100000) {te : TE} {σ : L2.St}
    (he : ∀ H2, Sb a H1 H2 → Vt H2 a → ∀ R : VK, (∀ y H3, Sb a H2 H3 → Vt H3 a → Pr i y H3 → R y H3) → te σ H2 R) (p : ItV a H1 D Pr i H) :
    te σ H fun y H4 => ∃ acc, H4 D = some (.lst acc) ∧ acc.length < sizeLine ∧ ItV a H1 D Pr (i + 1) (upd H4 D (.lst (acc ++ [y]))) := by
  obtain ⟨s, hV, ys, e, l, all⟩ := p
  refine he H s hV _ fun y H4 s4 hV4 py => ?_
  have e4 := s4 D _ da e
  have t : Tx H4 (upd H4 D (.lst (ys ++ [y]))) := Tx.lst e4
  refine ⟨ys, e4, by rw [l]; exact Nat.lt_of_lt_of_le hi (by decide), fun b o nb hb => ?_, ?_, ys ++ [y], upd_same, by rw [List.length_append, l]; rfl, fun j z ez => ?_⟩
  · rw [upd_ne (ne_of_none hb hD)]
    exact s4 b o nb (s b o nb hb)
  · obtain ⟨p, q, r, ev⟩ := hV4
    exact ⟨p, q, r, by rw [upd_ne da.symm]; exact ev⟩
  · by_cases hj : j < ys.length
    · rw [List.getElem?_append_left hj] at ez
      exact mono _ _ _ _ ((hV.tx s4).trans t) (all j z ez)
    · rw [List.getElem?_append_right (by omega)] at ez
      have ej : j - ys.length = 0 := by
        cases q : j - ys.length with
        | zero => rfl
        | succ m =>
          rw [q] at ez
          cases ez
      rw [ej] at ez
      cases ez
      have e2 : j = i := by omega
      rw [e2]
      exact mono _ _ _ _ t py
theorem lcRv {te : TE} {j : Nat} {vs : List Nat} {σ : L2.St} {H1 : Hp} {Q : VK} (a : Addr) (Pr : Nat → V → Hp → Prop) {n : Nat} {ta : TA} (hV : Vt H1 a) (ht : ∀ R : List V → Hp → Prop, R [.int (n : Int)] H1 → ta σ H1 R) (hn : n ≤ 100000)
    (hw : ∀ x, wipe ((wipe σ vs).set j (some x)) vs = wipe σ vs) (mono : ∀ j y H2 H3, Tx H2 H3 → Pr j y H2 → Pr j y H3)
    (he : ∀ i, i < n → ∀ H2, Sb a H1 H2 → Vt H2 a → ∀ R : VK, (∀ y H3, Sb a H2 H3 → Vt H3 a → Pr i y H3 → R y H3) → te ((wipe σ vs).set j (some (.int (i : Int)))) H2 R)
    (k : ∀ D H2 ys, H1 D = none → Sb a H1 H2 → Vt H2 a → H2 D = some (.lst ys) → ys.length = n → (∀ (i : Nat) y, ys[i]? = some y → Pr i y H2) → Q (.ref D) H2) :
    tLc (iRng1 ta) (gName j) tYes te vs σ H1 Q := ht _ ⟨(n : Int), rfl, by omega, by omega, fun D hD => by
    have da : D ≠ a := by
      obtain ⟨p, q, r, ev⟩ := hV
      exact (ne_of_none ev hD).symm
    rw [Int.toNat_natCast]
    exact lc_range (lo := 0) (n := n) (ItV a H1 D Pr) ⟨Sb.of (same_new hD), hV.mono (same_new hD), [], upd_same, rfl, fun j y e => by cases j <;> cases e⟩ (fun i H hx p => by
      have e : (0 : Int) + (i : Int) = (i : Int) := Int.zero_add _
      show wipe ((wipe σ vs).set j (some (.int ((0 : Int) + (i : Int))))) vs = wipe σ vs ∧ te ((wipe σ vs).set j (some (.int ((0 : Int) + (i : Int))))) H fun y H4 => ∃ acc, H4 D = some (.lst acc) ∧ acc.length < sizeLine ∧ ItV a H1 D Pr (i + 1) (upd H4 D (.lst (acc ++ [y])))
      rw [e]
      exact ⟨hw _, itv_turn mono hD da (Nat.lt_of_lt_of_le hx hn) (he i hx) p⟩) fun H p => by
        obtain ⟨s, hV2, ys, e, l, all⟩ := p
        exact k D H ys hD s hV2 e l all⟩
section
variable {P : Program} {w : World} {K : PySem.W.Frag} {mg : Str → Option Value} {base : Heap}
def sp_some (K : PySem.W.Frag) : Sp := fun vs H Q _ => ∃ (a : Addr) (z : Nat), vs = [.ref a, .int (z : Int)] ∧ Vt H a ∧ 0 < z ∧ z ≤ 30 ∧ ∀ H' v q, Sb a H H' → Vt H' a → IsF K H' v q → Wb 5 q → Q v H'
abbrev N_law_some : List Str := ["_law_vat_here", "_law_wide"]
theorem sc_law_some : FnScope N_law_some ["_law_vat_here", "_law_wide"] (defScope s_law_some) := ⟨rfl, rfl, rfl, by decide +kernel, rfl, by decide +kernel, by decide +kernel⟩
theorem ok_law_some (T : Tp K mg) : FnOk P w K mg base CX0 3 (fA K "_law_some") (fD K "_law_some") ["_law_vat_here", "_law_wide"] (sp_some K) := by
  refine T.d_law_some.F.ok sc_law_some (fun vs H Q E h => ?_) (fun cdv A outer s H vs Q E hr h => ?_)
  · obtain ⟨_, _, rfl, _⟩ := h
    rfl
  · obtain ⟨a, z, rfl, hV, z0, zb, k⟩ := h
    refine ⟨_, PSs.nox ((pss_one (ps_ret (pe_call (ok_law_low T) (hr.mono (by decide)) (by rfl) T.d_law_low.g T.d_law_low.F.kp T.b_law_low .nil pass0 (pa_cons (pe_op op_add pe_int (pe_call (ok_law_sip T) (hr.mono (by decide)) (by rfl) T.d_law_sip.g T.d_law_sip.F.kp T.b_law_sip .nil pass0 (pa_cons (pv 0) (pa_cons (pv 1) pa_nil)))) (pa_cons (pe_op op_add pe_int (pe_call (ok_law_sip T) (hr.mono (by decide)) (by rfl) T.d_law_sip.g T.d_law_sip.F.kp T.b_law_sip .nil pass0 (pa_cons (pv 0) (pa_cons (pe_call (ok_law_of T) (hr.mono (by decide)) (by rfl) T.d_law_of.g T.d_law_of.F.kp T.b_law_of .nil pass0 (pa_cons (pv 0) (pa_cons (pe_lst (pa_cons pe_int (pa_cons pe_int (pa_cons pe_int (pa_cons (pv 1) pa_nil))))) pa_nil))) pa_nil)))) pa_nil)))))), ?_⟩
    refine ⟨_, rfl, _, rfl, a, z, rfl, hV, z0, by omega, fun H1 r1 s1 hV1 hr1 => ⟨_, _, rfl, rfl, ?_⟩⟩
    refine ⟨_, rfl, _, rfl, _, rfl, by show 4 ≤ sizeLine; decide, fun l hl => ⟨a, l, _, rfl, hV1.mono (same_new hl), ?_, upd_same, by show 0 < 4; decide, by show 4 ≤ 1000; decide, fun H2 i v s2 hV2 ei => ?_⟩⟩
    · obtain ⟨p, q, r, ev⟩ := hV1
      exact (ne_of_none ev hl).symm
    · have hv : ∃ y : Nat, v = .int (y : Int) ∧ 0 < y ∧ y ≤ 30 := by
        match i, ei with
        | 0, ei => exact ⟨1, (Option.some.inj ei).symm, by decide, by decide⟩
        | 1, ei => exact ⟨1, (Option.some.inj ei).symm, by decide, by decide⟩
        | 2, ei => exact ⟨2, (Option.some.inj ei).symm, by decide, by decide⟩
        | 3, ei => exact ⟨z, (Option.some.inj ei).symm, z0, zb⟩
        | i + 4, ei => cases ei
      obtain ⟨y, rfl, y0, yb⟩ := hv
      refine ⟨a, y, rfl, hV2, y0, by omega, fun H3 r2 s3 hV3 hr2 => ⟨_, _, rfl, rfl, ?_⟩⟩
      refine ⟨1 + r1, 1 + r2, ?_, by omega, Nat.lt_of_lt_of_le (show 1 + r2 < 2 ^ 5 by omega) (Nat.pow_le_pow_right (by decide) (by decide)), fun H4 u s4 fu => ?_⟩
      · show [V.int (1 + (r1 : Int)), V.int (1 + (r2 : Int))] = _
        rw [Int.natCast_add, Int.natCast_add]
        rfl
      · exact k H4 u _ ((s1.trans (Sb.of (same_new hl))).trans ((s2.trans s3).trans (Sb.of s4))) (hV3.mono s4) fu (Wb.low (by omega) (by omega) (by omega) (by omega))
def sp_product (K : PySem.W.Frag) : Sp := fun vs H Q _ => ∃ (l : Addr) (Fs : List Q2) (t : Nat), vs = [.ref l, .int (t : Int)] ∧ IsR K H l Fs ∧ Fs.length ≤ 5 ∧ (∀ q ∈ Fs, Wb 5 q) ∧ ∀ H' v q, Same H H' → IsF K H' v q → Wb 26 q → (t = 0 → q = (1, 1)) → Q v H'
abbrev N_law_product : List Str := ["_law_factors", "_law_standing", "_law_found", "_law_seat"]
theorem sc_law_product : FnScope N_law_product ["_law_factors", "_law_standing"] (defScope s_law_product) := ⟨rfl, rfl, rfl, by decide +kernel, rfl, by decide +kernel, by decide +kernel⟩
theorem ok_law_product (T : Tp K mg) : FnOk P w K mg base CX0 4 (fA K "_law_product") (fD K "_law_product") ["_law_factors", "_law_standing"] (sp_product K) := by
  refine T.d_law_product.F.ok sc_law_product (fun vs H Q E h => ?_) (fun cdv A outer s H vs Q E hr h => ?_)
  · obtain ⟨_, _, _, rfl, _⟩ := h
    rfl
  · obtain ⟨l, Fs, t, rfl, hR, f5, fw, k⟩ := h
    refine ⟨_, PSs.nox ((pss_cons (ps_set (i := 2) sc_law_product.nd rfl (Or.inl rfl) (pe_tup (pa_cons pe_int (pa_cons pe_int pa_nil))))
      (pss_cons (ps_for PassesOwn.never rfl (pi_range1 (by rfl) T.z_range (pa_cons (pe_callB call_len_seq (by rfl) T.z_len PySem.boot_len (pa_cons (pv 0) pa_nil)) pa_nil)) (pg_name (i := 3) sc_law_product.nd rfl (Or.inl rfl)) (pss_one (ps_if (pt_val (pe_call (ok_law_has T) (hr.mono (by decide)) (by rfl) T.d_law_has.g T.d_law_has.F.kp T.b_law_has .nil pass0 (pa_cons (pv 1) (pa_cons (pv 3) pa_nil)))) (pss_one (ps_set (i := 2) sc_law_product.nd rfl (Or.inl rfl) (pe_call (ok_law_mul T) (hr.mono (by decide)) (by rfl) T.d_law_mul.g T.d_law_mul.F.kp T.b_law_mul .nil pass0 (pa_cons (pv 2) (pa_cons (pe_ix ix_list (pv 0) (pv 3) (fun _ _ => rfl)) pa_nil))))) pss_nil)))
      (pss_one (ps_ret (pv 2)))))), ?_⟩
    refine ⟨by show 2 ≤ sizeLine; decide, fun o ho => ?_⟩
    have s0 := same_new (o := .tup [.int 1, .int 1]) ho
    obtain ⟨vs0, e0, fs0⟩ := hR.mono s0
    refine ⟨_, rfl, l, _, rfl, .inl (SqL.of e0), (vs0.length : Int), rfl, by omega, by have := fs0.1; omega, for_range (lo := 0) (fun i σ H' => ∃ v q y3, σ = [some (.ref l), some (.int (t : Int)), some v, y3] ∧ Same H H' ∧ IsF K H' v q ∧ Wb (1 + 5 * i) q ∧ (t = 0 → q = (1, 1))) ⟨.ref o, (1, 1), none, rfl, s0, ⟨o, rfl, SqT.of upd_same⟩, Wb.one, fun _ => rfl⟩ ?_ ?_⟩
    · rintro i σ H' hi ⟨v, q, y3, rfl, s', fv, wv, ht⟩
      have hiF : i < Fs.length := by
        rw [Int.toNat_natCast, fs0.1] at hi
        exact hi
      have ez : (0 : Int) + (i : Int) = (i : Int) := Int.zero_add _
      show tIfS _ _ _ _ [some (.ref l), some (.int (t : Int)), some v, some (.int ((0 : Int) + (i : Int)))] H'
      rw [ez]
      refine ⟨_, rfl, _, rfl, t, i, rfl, fun b hb => ⟨_, rfl, ?_⟩⟩
      cases b with
      | false => exact iteF ⟨v, q, some (.int (i : Int)), rfl, s', fv, wv.mono (by omega), ht⟩
      | true =>
        obtain ⟨vs1, e1, fs1⟩ := hR.mono s'
        obtain ⟨u, eu, fu⟩ := fs1.get hiF
        have wu := fw _ (getD_mem (d := (0, 1)) hiF)
        refine iteT ⟨_, rfl, _, rfl, _, rfl, l, _, _, u, rfl, rfl, SqL.of e1, eu, v, u, _, _, _, _, rfl, fv, fu, wv.bd, wu.bd, by omega, fun H2 x s2 fx => ?_⟩
        exact ⟨x, _, some (.int (i : Int)), rfl, s'.trans s2, fx, (wv.mul wu).mono (by omega), fun e => by
          have := hb e
          cases this⟩
    · rintro σ H' ⟨v, q, y3, rfl, s', fv, wv, ht⟩
      refine ⟨_, rfl, k H' v q s' fv (wv.mono ?_) ht⟩
      rw [Int.toNat_natCast, fs0.1]
      omega
def sp_free (K : PySem.W.Frag) : Sp := fun vs H Q _ => ∃ (l : Addr) (Fs : List Q2) (n : Nat), vs = [.ref l] ∧ IsR K H l Fs ∧ Fs.length = n ∧ 1 ≤ n ∧ n ≤ 5 ∧ (∀ q ∈ Fs, Wb 5 q) ∧ ∀ H' v W, Same H H' → IsC K H' v W → CarB 26 n W → Q v H'
abbrev N_law_free : List Str := ["_law_factors", "_law_standing"]
theorem sc_law_free : FnScope N_law_free ["_law_factors"] (defScope s_law_free) := ⟨rfl, rfl, rfl, by decide +kernel, rfl, by decide +kernel, by decide +kernel⟩
theorem ok_law_free (T : Tp K mg) : FnOk P w K mg base CX0 5 (fA K "_law_free") (fD K "_law_free") ["_law_factors"] (sp_free K) := by
  refine T.d_law_free.F.ok sc_law_free (fun vs H Q E h => ?_) (fun cdv A outer s H vs Q E hr h => ?_)
  · obtain ⟨_, _, _, rfl, _⟩ := h
    rfl
  · obtain ⟨l, Fs, n, rfl, hR, fl, n1, n5, fw, k⟩ := h
    refine ⟨_, PSs.nox ((pss_one (ps_ret (pe_callTy call_tuple_of (by rfl) T.z_tuple (by decide +kernel) (pa_cons (pe_lc (own := [("_law_standing", 1)]) (g := gName 1) (tt := tYes) rfl sc_law_free.nd (pi_range1 (by rfl) T.z_range (pa_cons (pe_op op_shl pe_int (pe_callB call_len_seq (by rfl) T.z_len PySem.boot_len (pa_cons (pv 0) pa_nil))) pa_nil)) (blkOk_by (N := N_law_free) (sc := defScope s_law_free) (by decide +kernel)) (fun _ _ _ _ _ => pg_name (i := 1) sc_law_free.nd rfl (Or.inl rfl)) (fun _ _ _ _ _ => pts_nil) (fun _ _ _ _ _ => (pe_call (ok_law_product T) (hr.mono (by decide)) (by rfl) T.d_law_product.g T.d_law_product.F.kp T.b_law_product .nil pass0 (pa_cons (pv 0) (pa_cons (pv 1) pa_nil))))) pa_nil))))), ?_⟩
    obtain ⟨vs0, e0, fs0⟩ := id hR
    have p32 := pow32 n5
    refine rt1 (cb1 (lcR (n := 2 ^ n) (fun i y H' => ∃ q, IsF K H' y q ∧ Wb 26 q ∧ (i = 0 → q = (1, 1))) ?_ (by omega) (fun _ => rfl) ?_ ?_ ?_))
    · intro R kR
      refine ⟨_, rfl, l, _, rfl, .inl (SqL.of e0), _, _, rfl, rfl, ⟨by omega, by have := fs0.1; omega, by decide⟩, ?_⟩
      have e : (1 : Int) * 2 ^ ((vs0.length : Nat) : Int).toNat = ((2 ^ n : Nat) : Int) := by
        rw [Int.one_mul, Int.toNat_natCast, fs0.1, fl, Int.natCast_pow]
        rfl
      show R [.int ((1 : Int) * 2 ^ ((vs0.length : Nat) : Int).toNat)] H
      rw [e]
      exact kR
    · rintro j y H2 H3 t ⟨q, f, r⟩
      exact ⟨q, f.tx t, r⟩
    · intro i hi H2 s2 R kR
      exact ⟨_, rfl, _, rfl, l, Fs, i, rfl, hR.mono s2, by omega, fw, fun H3 v q s3 fv wv hv => kR v H3 s3 ⟨q, fv, wv, hv⟩⟩
    · intro D H2 ys hD s2 eD len all
      obtain ⟨W, fs, rs⟩ := choose_fs all
      refine ⟨D, ys, rfl, .inl ⟨SqL.of eD, fun p hp => ?_⟩⟩
      have hWl : W.length = 2 ^ n := by rw [← fs.1, len]
      refine k _ (.ref p) W (s2.trans (same_new hp)) ⟨p, ys, rfl, SqT.of upd_same, fs.tx (Tx.of (same_new hp))⟩ ⟨n1, n5, hWl, ?_, fun q hq => ?_⟩
      · have h0 : 0 < W.length := by rw [hWl]; exact Nat.two_pow_pos n
        have e := List.getElem?_eq_getElem h0
        rw [e, (rs 0 _ e).2 rfl]
      · obtain ⟨i, hi, e⟩ := List.mem_iff_getElem.mp hq
        exact (rs i q (by rw [List.getElem?_eq_getElem hi, e])).1
end
end G7
end

section
set_option Elab.async false
set_option linter.all false
set_option maxRecDepth 100000
set_option maxHeartbeats 4000000
namespace G7
open PySem PySem.Spec PyProof.Rows L2
theorem IsFs.snoc {K : PySem.W.Frag} {H : Hp} {vs : List V} {qs : List Q2} {v : V} {q : Q2} (h : IsFs K H vs qs) (f : IsF K H v q) : IsFs K H (vs ++ [v]) (qs ++ [q]) := by
  refine ⟨by rw [List.length_append, List.length_append, h.1]; rfl, fun i hi => ?_⟩
  by_cases hl : i < qs.length
  · obtain ⟨u, eu, fu⟩ := h.2 i hl
    refine ⟨u, by rw [List.getElem?_append_left (by rw [h.1]; exact hl)]; exact eu, ?_⟩
    rw [List.getD_eq_getElem?_getD, List.getElem?_append_left hl, ← List.getD_eq_getElem?_getD]
    exact fu
  · rw [List.length_append, List.length_singleton] at hi
    have ei : i = qs.length := by omega
    subst ei
    refine ⟨v, by rw [← h.1, List.getElem?_append_right (Nat.le_refl _), Nat.sub_self]; rfl, ?_⟩
    rw [List.getD_eq_getElem?_getD, List.getElem?_append_right (Nat.le_refl _), Nat.sub_self]
    exact f
theorem IsFs.cons {K : PySem.W.Frag} {H : Hp} {vs : List V} {qs : List Q2} {v : V} {q : Q2} (h : IsFs K H vs qs) (f : IsF K H v q) : IsFs K H (v :: vs) (q :: qs) := by
  refine ⟨by rw [List.length_cons, List.length_cons, h.1], fun i hi => ?_⟩
  cases i with
  | zero => exact ⟨v, rfl, f⟩
  | succ m => exact h.2 m (Nat.lt_of_succ_lt_succ hi)
theorem Vt.ne {H : Hp} {a p : Addr} (h : Vt H a) (hp : H p = none) : p ≠ a := by
  obtain ⟨_, _, _, e⟩ := h
  exact (ne_of_none e hp).symm
section
variable {P : Program} {w : World} {K : PySem.W.Frag} {mg : Str → Option Value} {base : Heap}
def sp_knot (K : PySem.W.Frag) : Sp := fun vs H Q _ => ∃ (c y : V) (W : List Q2) (qb : Q2) (n b i j : Nat), vs = [c, .int (i : Int), .int (j : Int), y] ∧ IsC K H c W ∧ CarB b n W ∧ IsF K H y qb ∧ Wb 4 qb ∧ b ≤ 1000 ∧ ∀ H' v W', Same H H' → IsC K H' v W' → CarB (b + 4) n W' → Q v H'
abbrev N_law_knot : List Str := ["_law_weights", "_law_one", "_law_two", "_law_by", "_law_found", "_law_standing", "_law_both"]
theorem sc_law_knot : FnScope N_law_knot ["_law_weights", "_law_one", "_law_two", "_law_by"] (defScope s_law_knot) := ⟨rfl, rfl, rfl, by decide +kernel, rfl, by decide +kernel, by decide +kernel⟩
theorem ok_law_knot (T : Tp K mg) : FnOk P w K mg base CX0 4 (fA K "_law_knot") (fD K "_law_knot") ["_law_weights", "_law_one", "_law_two", "_law_by"] (sp_knot K) := by
  refine T.d_law_knot.F.ok sc_law_knot (fun vs H Q E h => ?_) (fun cdv A outer s H vs Q E hr h => ?_)
  · obtain ⟨_, _, _, _, _, _, _, _, rfl, _⟩ := h
    rfl
  · obtain ⟨_, y, W, qb, n, b, i1, j1, rfl, hC, C, fy, wy, b1, k⟩ := h
    obtain ⟨a, cs, rfl, hS, hF⟩ := id hC
    have p32 := pow32 C.hi
    refine ⟨_, PSs.nox ((pss_cons (ps_set (i := 4) sc_law_knot.nd rfl (Or.inl rfl) (pe_lst pa_nil))
      (pss_cons (ps_for PassesOwn.never rfl (pi_range1 (by rfl) T.z_range (pa_cons (pe_callB call_len_seq (by rfl) T.z_len PySem.boot_len (pa_cons (pv 0) pa_nil)) pa_nil)) (pg_name (i := 5) sc_law_knot.nd rfl (Or.inl rfl)) (Evl.pss_cut (ps_set (i := 6) sc_law_knot.nd rfl (Or.inl rfl) (pe_and (pe_call (ok_law_has T) (hr.mono (by decide)) (by rfl) T.d_law_has.g T.d_law_has.F.kp T.b_law_has .nil pass0 (pa_cons (pv 5) (pa_cons (pv 1) pa_nil))) (pe_one (pe_call (ok_law_has T) (hr.mono (by decide)) (by rfl) T.d_law_has.g T.d_law_has.F.kp T.b_law_has .nil pass0 (pa_cons (pv 5) (pa_cons (pv 2) pa_nil))))))
      (pss_one (ps_expr (pe_bm PySem.F.plainAttrs_list PySem.F.slot_list_append PySem.F.type_list_append mt_append (pv 4) (pa_cons (pe_ifExp (pt_val (pv 6)) (pe_call (ok_law_mul T) (hr.mono (by decide)) (by rfl) T.d_law_mul.g T.d_law_mul.F.kp T.b_law_mul .nil pass0 (pa_cons (pe_ix ix_tup (pv 0) (pv 5) (fun _ _ => rfl)) (pa_cons (pv 3) pa_nil))) (pe_ix ix_tup (pv 0) (pv 5) (fun _ _ => rfl))) pa_nil))))))
      (pss_one (ps_ret (pe_callTy call_tuple_of (by rfl) T.z_tuple (by decide +kernel) (pa_cons (pv 4) pa_nil))))))), ?_⟩
    refine ⟨by show 0 ≤ sizeLine; decide, fun F hFn => ?_⟩
    have s0 := same_new (o := .lst []) hFn
    refine ⟨_, rfl, a, _, rfl, .inr (Same.tup s0 hS), (cs.length : Int), rfl, by omega, by have := hF.1; have := C.len; omega, for_range (lo := 0) (fun i σ H' => ∃ y5 y6 vs W', σ = [some (.ref a), some (.int (i1 : Int)), some (.int (j1 : Int)), some y, some (.ref F), y5, y6] ∧ Same H H' ∧ H' F = some (.lst vs) ∧ IsFs K H' vs W' ∧ W'.length = i ∧ (∀ q ∈ W', Wb (b + 4) q) ∧ (0 < i → W'[0]? = some (1, 1)))
      ⟨none, none, [], [], rfl, s0, upd_same, ⟨rfl, fun i h => (by cases h)⟩, rfl, fun q h => (by cases h), fun h => (by cases h)⟩ ?_ ?_⟩
    · rintro i σ H' hi ⟨y5, y6, vs, W', rfl, s', eF, fs, wl, ww, w0⟩
      have hi2 : i < 2 ^ n := by
        rw [Int.toNat_natCast, hF.1, C.len] at hi
        exact hi
      have hiW : i < W.length := by rw [C.len]; exact hi2
      have ez : (0 : Int) + (i : Int) = (i : Int) := Int.zero_add _
      show Evl.tCut _ _ _ [some (.ref a), some (.int (i1 : Int)), some (.int (j1 : Int)), some y, some (.ref F), some (.int ((0 : Int) + (i : Int))), y6] H'
      rw [ez]
      refine ⟨fun σ2 H2 => ∃ bo, σ2 = [some (.ref a), some (.int (i1 : Int)), some (.int (j1 : Int)), some y, some (.ref F), some (.int (i : Int)), some (.bl bo)] ∧ H2 = H' ∧ (i = 0 → bo = false), ⟨_, rfl, _, rfl, i, i1, rfl, fun b1 hb1 => ⟨b1, rfl, ?_⟩⟩, ?_⟩
      · cases b1 with
        | false => exact iteF ⟨false, rfl, rfl, fun _ => rfl⟩
        | true => exact iteT ⟨_, rfl, _, rfl, i, j1, rfl, fun b2 hb2 => ⟨b2, rfl, rfl, hb2⟩⟩
      · rintro σ2 H2 ⟨bo, rfl, rfl, hbo⟩
        obtain ⟨v1, e1, f1⟩ := (hF.tx (Tx.of s')).get hiW
        have w1 := C.wt _ (getD_mem (d := (0, 1)) hiW)
        have lt : vs.length < sizeLine := by
          rw [fs.1, wl]
          exact Nat.lt_of_lt_of_le (show i < 100 by omega) (by decide)
        have fin : ∀ (x : V) (qx : Q2) (H3 : Hp), Same H2 H3 → IsF K H3 x qx → Wb (b + 4) qx → (i = 0 → qx = (1, 1)) →
            ∃ y5 y6 vs2 W2, [some (V.ref a), some (.int (i1 : Int)), some (.int (j1 : Int)), some y, some (.ref F), some (.int (i : Int)), some (.bl bo)] = [some (.ref a), some (.int (i1 : Int)), some (.int (j1 : Int)), some y, some (.ref F), y5, y6] ∧ Same H (upd H3 F (.lst (vs ++ [x]))) ∧ upd H3 F (.lst (vs ++ [x])) F = some (.lst vs2) ∧ IsFs K (upd H3 F (.lst (vs ++ [x]))) vs2 W2 ∧ W2.length = i + 1 ∧ (∀ q ∈ W2, Wb (b + 4) q) ∧ (0 < i + 1 → W2[0]? = some (1, 1)) := fun x qx H3 s3 fx wx x0 => by
          have t := Tx.lst (o := .lst (vs ++ [x])) (s3 F _ eF)
          refine ⟨_, _, vs ++ [x], W' ++ [qx], rfl, Same.mut (s'.trans s3) hFn, upd_same, (fs.tx ((Tx.of s3).trans t)).snoc (fx.tx t), by rw [List.length_append, wl]; rfl, fun q hq => ?_, fun _ => ?_⟩
          · rcases List.mem_append.mp hq with hq | hq
            · exact ww q hq
            · rw [List.mem_singleton.mp hq]
              exact wx
          · by_cases i0 : i = 0
            · have : W' = [] := List.eq_nil_of_length_eq_zero (by omega)
              rw [this, x0 i0]
              rfl
            · rw [List.getElem?_append_left (by omega)]
              exact w0 (by omega)
        cases bo with
        | true =>
          refine ⟨_, rfl, .inl ⟨rfl, _, SqL.of eF⟩, _, rfl, true, rfl, iteT ?_⟩
          refine ⟨_, rfl, _, rfl, a, cs, _, v1, rfl, rfl, Same.tup s' hS, e1, _, rfl, v1, y, _, qb, b, 4, rfl, f1, fy.mono s', w1.bd, wy.bd, by omega, fun H3 x s3 fx => ⟨F, vs, _, rfl, rfl, s3 F _ eF, lt, ?_⟩⟩
          exact fin x _ H3 s3 fx (w1.mul wy) fun e => by
            have := hbo e
            cases this
        | false =>
          refine ⟨_, rfl, .inl ⟨rfl, _, SqL.of eF⟩, _, rfl, false, rfl, iteF ?_⟩
          refine ⟨_, rfl, _, rfl, a, cs, _, v1, rfl, rfl, Same.tup s' hS, e1, F, vs, _, rfl, rfl, eF, lt, ?_⟩
          exact fin v1 _ H2 (Same.refl _) f1 (w1.mono (by omega)) fun e => by
            subst e
            rw [List.getD_eq_getElem?_getD, C.one]
            rfl
    · rintro σ H' ⟨y5, y6, vs, W', rfl, s', eF, fs, wl, ww, w0⟩
      rw [Int.toNat_natCast, hF.1, C.len] at wl w0
      refine ⟨_, rfl, F, vs, rfl, .inl ⟨SqL.of eF, fun p hp => ?_⟩⟩
      exact k _ (.ref p) W' (s'.trans (same_new hp)) ⟨p, vs, rfl, SqT.of upd_same, fs.tx (Tx.of (same_new hp))⟩ ⟨C.lo, C.hi, wl, w0 (Nat.two_pow_pos n), ww⟩
def sp_knots (K : PySem.W.Frag) : Sp := fun vs H Q _ => ∃ (a l : Addr) (c : V) (W : List Q2) (n : Nat) (xs : List V), vs = [.ref a, c, .ref l] ∧ Vt H a ∧ IsC K H c W ∧ CarB 26 n W ∧ l ≠ a ∧ H l = some (.lst xs) ∧ 0 < xs.length ∧ xs.length ≤ 1000 ∧ (∀ v ∈ xs, ∃ q, IsF K H v q ∧ Wb 4 q) ∧
  ∀ H' v W', Sb a H H' → Vt H' a → IsC K H' v W' → CarB 110 n W' → Q v H'
abbrev N_law_knots : List Str := ["_law_vat_here", "_law_weights", "_law_some_here", "_law_seats", "_law_one", "_law_two"]
theorem sc_law_knots : FnScope N_law_knots ["_law_vat_here", "_law_weights", "_law_some_here"] (defScope s_law_knots) := ⟨rfl, rfl, rfl, by decide +kernel, rfl, by decide +kernel, by decide +kernel⟩
theorem ok_law_knots (T : Tp K mg) : FnOk P w K mg base CX0 5 (fA K "_law_knots") (fD K "_law_knots") ["_law_vat_here", "_law_weights", "_law_some_here"] (sp_knots K) := by
  refine T.d_law_knots.F.ok sc_law_knots (fun vs H Q E h => ?_) (fun cdv A outer s H vs Q E hr h => ?_)
  · obtain ⟨_, _, _, _, _, _, rfl, _⟩ := h
    rfl
  · obtain ⟨a, l, c, W, n, xs, rfl, hV, hC, C, la, eL, x0, xb, fx, k⟩ := h
    have n5 := C.hi
    refine ⟨_, PSs.nox ((pss_cons (ps_set (i := 3) sc_law_knots.nd rfl (Or.inl rfl) (pe_call (ok_law_count_seats T) (hr.mono (by decide)) (by rfl) T.d_law_count_seats.g T.d_law_count_seats.F.kp T.b_law_count_seats .nil pass0 (pa_cons (pv 1) pa_nil)))
      (pss_cons (ps_for PassesOwn.never rfl (pi_range1 (by rfl) T.z_range (pa_cons (pv 3) pa_nil)) (pg_name (i := 4) sc_law_knots.nd rfl (Or.inl rfl)) (pss_one (ps_for PassesOwn.never rfl (pi_range2 (by rfl) T.z_range (pa_cons (pe_op op_add (pv 4) pe_int) (pa_cons (pv 3) pa_nil))) (pg_name (i := 5) sc_law_knots.nd rfl (Or.inl rfl)) (pss_one (ps_if (pt_cmpR op_eq (pe_call (ok_law_sip T) (hr.mono (by decide)) (by rfl) T.d_law_sip.g T.d_law_sip.F.kp T.b_law_sip .nil pass0 (pa_cons (pv 0) (pa_cons pe_int pa_nil))) pe_int (nomark _)) (pss_one (ps_set (i := 1) sc_law_knots.nd rfl (Or.inl rfl) (pe_call (ok_law_knot T) (hr.mono (by decide)) (by rfl) T.d_law_knot.g T.d_law_knot.F.kp T.b_law_knot .nil pass0 (pa_cons (pv 1) (pa_cons (pv 4) (pa_cons (pv 5) (pa_cons (pe_call (ok_law_of T) (hr.mono (by decide)) (by rfl) T.d_law_of.g T.d_law_of.F.kp T.b_law_of .nil pass0 (pa_cons (pv 0) (pa_cons (pv 2) pa_nil))) pa_nil))))))) pss_nil)))))
      (pss_one (ps_ret (pv 1)))))), ?_⟩
    refine ⟨_, rfl, c, W, n, rfl, hC, C.car (by decide), fun H1 s1 => ?_⟩
    refine ⟨_, rfl, (n : Int), rfl, by omega, by omega, for_range (lo := 0) (fun i σ H' => ∃ c2 W2 y4 y5, σ = [some (.ref a), some c2, some (.ref l), some (.int (n : Int)), y4, y5] ∧ Sb a H H' ∧ Vt H' a ∧ IsC K H' c2 W2 ∧ CarB (26 + 4 * (4 * i)) n W2) ⟨c, W, none, none, rfl, Sb.of s1, hV.mono s1, hC.mono s1, C⟩ ?_ ?_⟩
    · rintro i σ H' hi ⟨c2, W2, y4, y5, rfl, sb, hV2, hC2, C2⟩
      rw [Int.toNat_natCast] at hi
      have ez : (0 : Int) + (i : Int) = (i : Int) := Int.zero_add _
      show tFor _ _ _ _ [some (.ref a), some c2, some (.ref l), some (.int (n : Int)), some (.int ((0 : Int) + (i : Int))), y5] H'
      rw [ez]
      refine ⟨_, rfl, _, _, rfl, rfl, _, rfl, (i : Int) + 1, (n : Int), rfl, by omega, for_range (lo := (i : Int) + 1) (fun d σ H2 => ∃ c3 W3 y5, σ = [some (.ref a), some c3, some (.ref l), some (.int (n : Int)), some (.int (i : Int)), y5] ∧ Sb a H H2 ∧ Vt H2 a ∧ IsC K H2 c3 W3 ∧ CarB (26 + 4 * (4 * i + d)) n W3) ⟨c2, W2, y5, rfl, sb, hV2, hC2, C2⟩ ?_ ?_⟩
      · rintro d σ H2 hd ⟨c3, W3, y5, rfl, sb2, hV3, hC3, C3⟩
        have ed : (i : Int) + 1 + (d : Int) = ((i + 1 + d : Nat) : Int) := by omega
        show tIfS _ _ _ _ [some (.ref a), some c3, some (.ref l), some (.int (n : Int)), some (.int (i : Int)), some (.int ((i : Int) + 1 + (d : Int)))] H2
        rw [ed]
        refine ⟨_, rfl, a, 2, rfl, hV3, by decide, by decide, fun H3 r s3 hV4 hr3 => ⟨rfl, _, rfl, ite2 (fun _ => ?_) (fun _ => ?_)⟩⟩
        · have sb3 := sb2.trans s3
          refine ⟨_, rfl, _, rfl, _, rfl, _, rfl, _, rfl, a, l, xs, rfl, hV4, la, sb3 l _ la eL, x0, xb, fun H4 m v s4 hV5 em => ?_⟩
          obtain ⟨q, fq, wq⟩ := fx v (List.mem_of_getElem? em)
          have t4 := hV.tx (sb3.trans s4)
          have t34 := hV3.tx (s3.trans s4)
          refine ⟨c3, v, W3, q, n, _, i, i + 1 + d, rfl, hC3.tx t34, C3, fq.tx t4, wq, by omega, fun H5 v5 W5 s5 hC5 C5 => ?_⟩
          exact ⟨v5, W5, some (.int ((i + 1 + d : Nat) : Int)), rfl, (sb3.trans s4).trans (Sb.of s5), hV5.mono s5, hC5, C5⟩
        · exact ⟨c3, W3, some (.int ((i + 1 + d : Nat) : Int)), rfl, sb2.trans s3, hV4, hC3.tx (hV3.tx s3), C3.mono (by omega)⟩
      · rintro σ H2 ⟨c3, W3, y5, rfl, sb2, hV3, hC3, C3⟩
        exact ⟨c3, W3, some (.int (i : Int)), y5, rfl, sb2, hV3, hC3, C3.mono (by omega)⟩
    · rintro σ H' ⟨c2, W2, y4, y5, rfl, sb, hV2, hC2, C2⟩
      rw [Int.toNat_natCast] at C2
      exact ⟨_, rfl, k H' c2 W2 sb hV2 hC2 (C2.mono (by omega))⟩
end
end G7
end

section
set_option Elab.async false
set_option linter.all false
set_option maxRecDepth 100000
set_option maxHeartbeats 4000000
namespace G7
open PySem PySem.Spec PyProof.Rows L2
theorem ca1 {te : TE} {sp : Sp} {E : XK} {σ : L2.St} {H : Hp} {Q : VK} (h : te σ H fun x H1 => sp [x] H1 Q E) : tCall sp [] E (tCons te tNil) σ H Q := h
theorem cut_one (xs : List V) : cutV xs (some 1) none = xs.drop 1 := by
  unfold cutV
  rw [show HT.sIx xs.length 0 (some 1) = min 1 xs.length from HT.sIx_nat xs.length 0 1, HT.sIx_none]
  by_cases h : 1 ≤ xs.length
  · rw [Nat.min_eq_left h]
    exact List.take_of_length_le (by rw [List.length_drop]; omega)
  · have e : xs = [] := List.eq_nil_of_length_eq_zero (by omega)
    subst e
    rfl
theorem sb_mut {a F : Addr} {H H' : Hp} {o : HO} (s : Sb a H H') (h : H F = none) : Sb a H (upd H' F o) := fun b u n e => by
  rw [upd_ne (ne_of_none e h)]
  exact s b u n e
theorem vt_mut {H : Hp} {a F : Addr} {o : HO} (h : Vt H a) (n : F ≠ a) : Vt (upd H F o) a := by
  obtain ⟨p, q, r, e⟩ := h
  exact ⟨p, q, r, by rw [upd_ne n.symm]; exact e⟩
theorem Sb.free {a F : Addr} {H H' : Hp} (s : Sb a H H') (hV : Vt H a) (h : H' F = none) (hV2 : Vt H' a) : H F = none := by
  cases q : H F with
  | none => rfl
  | some o =>
    by_cases e : F = a
    · subst e
      obtain ⟨_, _, _, ev⟩ := hV2
      rw [ev] at h
      cases h
    · rw [s F o e q] at h
      cases h
theorem wb8 (i j : Nat) (u v : V) (hi : [V.int 5, V.int 9, V.int 50, V.int 200][i]? = some u) (hj : [V.int 1, V.int 1, V.int 7][j]? = some v) : ∃ q : Q2, u = .int (q.1 : Int) ∧ v = .int (q.2 : Int) ∧ Wb 8 q := by
  have hu : ∃ x : Nat, u = .int (x : Int) ∧ (x = 5 ∨ x = 9 ∨ x = 50 ∨ x = 200) := by
    match i, hi with
    | 0, hi => exact ⟨5, (Option.some.inj hi).symm, .inl rfl⟩
    | 1, hi => exact ⟨9, (Option.some.inj hi).symm, .inr (.inl rfl)⟩
    | 2, hi => exact ⟨50, (Option.some.inj hi).symm, .inr (.inr (.inl rfl))⟩
    | 3, hi => exact ⟨200, (Option.some.inj hi).symm, .inr (.inr (.inr rfl))⟩
    | i + 4, hi => cases hi
  have hv : ∃ x : Nat, v = .int (x : Int) ∧ (x = 1 ∨ x = 7) := by
    match j, hj with
    | 0, hj => exact ⟨1, (Option.some.inj hj).symm, .inl rfl⟩
    | 1, hj => exact ⟨1, (Option.some.inj hj).symm, .inl rfl⟩
    | 2, hj => exact ⟨7, (Option.some.inj hj).symm, .inr rfl⟩
    | j + 3, hj => cases hj
  obtain ⟨x, rfl, hx⟩ := hu
  obtain ⟨y, rfl, hy⟩ := hv
  refine ⟨(x, y), rfl, rfl, ?_⟩
  rcases hx with rfl | rfl | rfl | rfl <;> rcases hy with rfl | rfl <;> exact ⟨by decide, ⟨by decide, by decide, by decide⟩, by decide⟩
theorem wb4 {x y : Nat} (h : (0 < x ∧ x < 2 ^ 4 ∧ y < 2 ^ 4 ∧ 0 < y) ∧ Nat.gcd x y = 1) : Wb 4 (x, y) := ⟨h.1.1, ⟨h.1.2.1, h.1.2.2.1, h.1.2.2.2⟩, h.2⟩
section
variable {P : Program} {w : World} {K : PySem.W.Frag} {mg : Str → Option Value} {base : Heap}
def sp_bench (K : PySem.W.Frag) : Sp := fun vs H Q _ => ∃ (a : Addr) (n : Nat), vs = [.ref a, .int (n : Int)] ∧ Vt H a ∧ 1 ≤ n ∧ n ≤ 5 ∧ ∀ H' v W, Sb a H H' → Vt H' a → IsC K H' v W → Car n W → Q v H'
abbrev N_law_bench : List Str := ["_law_vat_here", "_law_seats", "_law_way", "_law_wide", "_law_standing", "_law_found", "_law_lap", "_law_weights", "_law_seat"]
theorem sc_law_bench : FnScope N_law_bench ["_law_vat_here", "_law_seats"] (defScope s_law_bench) := ⟨rfl, rfl, rfl, by decide +kernel, rfl, by decide +kernel, by decide +kernel⟩
theorem ok_law_bench (T : Tp K mg) : FnOk P w K mg base CX0 6 (fA K "_law_bench") (fD K "_law_bench") ["_law_vat_here", "_law_seats"] (sp_bench K) := by
  refine T.d_law_bench.F.ok sc_law_bench (fun vs H Q E h => ?_) (fun cdv A outer s H vs Q E hr h => ?_)
  · obtain ⟨_, _, rfl, _⟩ := h
    rfl
  · obtain ⟨a, n, rfl, hV, n1, n5, k⟩ := h
    have p32 := pow32 n5
    have p2 : 2 ≤ 2 ^ n := by
      have : 2 ^ 1 ≤ 2 ^ n := Nat.pow_le_pow_right (by decide) n1
      omega
    have es : (1 : Int) * 2 ^ ((n : Nat) : Int).toNat = ((2 ^ n : Nat) : Int) := by
      rw [Int.one_mul, Int.toNat_natCast, Int.natCast_pow]
      rfl
    have cp : CPow (1 : Int) ((n : Nat) : Int) := ⟨by omega, by omega, by decide⟩
    refine ⟨_, PSs.nox ((pss_cons (ps_set (i := 2) sc_law_bench.nd rfl (Or.inl rfl) (pe_call (ok_law_sip T) (hr.mono (by decide)) (by rfl) T.d_law_sip.g T.d_law_sip.F.kp T.b_law_sip .nil pass0 (pa_cons (pv 0) (pa_cons pe_int pa_nil))))
      (pss_cons (ps_if (pt_cmpR op_lt (pv 2) pe_int (nomark _)) (pss_cons (ps_set (i := 3) sc_law_bench.nd rfl (Or.inr rfl) (pe_call (ok_law_of T) (hr.mono (by decide)) (by rfl) T.d_law_of.g T.d_law_of.F.kp T.b_law_of .nil pass0 (pa_cons (pv 0) (pa_cons (pe_lst (pa_cons pe_int (pa_cons pe_int (pa_cons pe_int pa_nil)))) pa_nil))))
      (pss_one (ps_ret (pe_callTy call_tuple_of (by rfl) T.z_tuple (by decide +kernel) (pa_cons (pe_op op_cat (pe_lst (pa_cons (pe_tup (pa_cons pe_int (pa_cons pe_int pa_nil))) pa_nil)) (pe_lc (own := [("_law_standing", 4)]) (g := gName 4) (tt := tYes) rfl sc_law_bench.nd (pi_range1 (by rfl) T.z_range (pa_cons (pe_op op_sub (pe_op op_shl pe_int (pv 1)) pe_int) pa_nil)) (blkOk_by (N := N_law_bench) (sc := defScope s_law_bench) (by decide +kernel)) (fun _ _ _ _ _ => pg_name (i := 4) sc_law_bench.nd rfl (Or.inl rfl)) (fun _ _ _ _ _ => pts_nil) (fun _ _ _ _ _ => (pe_call (ok_law_some T) (hr.mono (by decide)) (by rfl) T.d_law_some.g T.d_law_some.F.kp T.b_law_some .nil pass0 (pa_cons (pv 0) (pa_cons (pv 3) pa_nil)))))) pa_nil))))) pss_nil)
      (pss_cons (ps_if (pt_cmpR op_eq (pv 2) pe_int (nomark _)) (pss_cons (ps_set (i := 5) sc_law_bench.nd rfl (Or.inl rfl) (pe_op op_rep (pe_lst (pa_cons (pe_tup (pa_cons pe_int (pa_cons pe_int pa_nil))) pa_nil)) (pe_op op_shl pe_int (pv 1))))
      (pss_cons (ps_for PassesOwn.never rfl (pi_range1 (by rfl) T.z_range (pa_cons (pe_op op_add pe_int (pe_call (ok_law_sip T) (hr.mono (by decide)) (by rfl) T.d_law_sip.g T.d_law_sip.F.kp T.b_law_sip .nil pass0 (pa_cons (pv 0) (pa_cons pe_int pa_nil)))) pa_nil)) (pg_name (i := 6) sc_law_bench.nd rfl (Or.inl rfl)) (pss_one (ps_asg (pe_tup (pa_cons (pe_call (ok_law_of T) (hr.mono (by decide)) (by rfl) T.d_law_of.g T.d_law_of.F.kp T.b_law_of .nil pass0 (pa_cons (pv 0) (pa_cons (pe_lst (pa_cons pe_int (pa_cons pe_int (pa_cons pe_int (pa_cons pe_int pa_nil))))) pa_nil))) (pa_cons (pe_call (ok_law_of T) (hr.mono (by decide)) (by rfl) T.d_law_of.g T.d_law_of.F.kp T.b_law_of .nil pass0 (pa_cons (pv 0) (pa_cons (pe_lst (pa_cons pe_int (pa_cons pe_int (pa_cons pe_int pa_nil)))) pa_nil))) pa_nil))) (pg_sub (pv 5) (pe_op op_add pe_int (pe_call (ok_law_sip T) (hr.mono (by decide)) (by rfl) T.d_law_sip.g T.d_law_sip.F.kp T.b_law_sip .nil pass0 (pa_cons (pv 0) (pa_cons (pe_op op_sub (pe_op op_shl pe_int (pv 1)) pe_int) pa_nil)))) set_list))))
      (pss_one (ps_ret (pe_callTy call_tuple_of (by rfl) T.z_tuple (by decide +kernel) (pa_cons (pe_op op_cat (pe_lst (pa_cons (pe_tup (pa_cons pe_int (pa_cons pe_int pa_nil))) pa_nil)) (pe_slice sl_list (pv 5) (po_some pe_int) po_none)) pa_nil)))))) pss_nil)
      (pss_cons (ps_set (i := 7) sc_law_bench.nd rfl (Or.inl rfl) (pe_call (ok_law_free T) (hr.mono (by decide)) (by rfl) T.d_law_free.g T.d_law_free.F.kp T.b_law_free .nil pass0 (pa_cons (pe_lc (own := [("_law_seat", 8)]) (g := gName 8) (tt := tYes) rfl sc_law_bench.nd (pi_range1 (by rfl) T.z_range (pa_cons (pv 1) pa_nil)) (blkOk_by (N := N_law_bench) (sc := defScope s_law_bench) (by decide +kernel)) (fun _ _ _ _ _ => pg_name (i := 8) sc_law_bench.nd rfl (Or.inl rfl)) (fun _ _ _ _ _ => pts_nil) (fun _ _ _ _ _ => (pe_call (ok_law_some T) (hr.mono (by decide)) (by rfl) T.d_law_some.g T.d_law_some.F.kp T.b_law_some .nil pass0 (pa_cons (pv 0) (pa_cons (pe_call (ok_law_of T) (hr.mono (by decide)) (by rfl) T.d_law_of.g T.d_law_of.F.kp T.b_law_of .nil pass0 (pa_cons (pv 0) (pa_cons (pe_lst (pa_cons pe_int (pa_cons pe_int (pa_cons pe_int pa_nil)))) pa_nil))) pa_nil))))) pa_nil)))
      (pss_cons (ps_if (pt_cmpR op_eq (pv 2) pe_int (nomark _)) (pss_one (ps_ret (pv 7))) pss_nil)
      (pss_one (ps_ret (pe_call (ok_law_knots T) (hr.mono (by decide)) (by rfl) T.d_law_knots.g T.d_law_knots.F.kp T.b_law_knots .nil pass0 (pa_cons (pv 0) (pa_cons (pv 7) (pa_cons (pe_ix ix_list (pe_lst (pa_cons (pe_lst (pa_cons (pe_tup (pa_cons pe_int (pa_cons pe_int pa_nil))) (pa_cons (pe_tup (pa_cons pe_int (pa_cons pe_int pa_nil))) (pa_cons (pe_tup (pa_cons pe_int (pa_cons pe_int pa_nil))) (pa_cons (pe_tup (pa_cons pe_int (pa_cons pe_int pa_nil))) pa_nil))))) (pa_cons (pe_lst (pa_cons (pe_tup (pa_cons pe_int (pa_cons pe_int pa_nil))) (pa_cons (pe_tup (pa_cons pe_int (pa_cons pe_int pa_nil))) (pa_cons (pe_tup (pa_cons pe_int (pa_cons pe_int pa_nil))) (pa_cons (pe_tup (pa_cons pe_int (pa_cons pe_int pa_nil))) pa_nil))))) pa_nil))) (pe_op op_sub (pv 2) pe_int) (fun _ _ => rfl)) pa_nil)))))))))))), ?_⟩
    refine ⟨_, rfl, a, 6, rfl, hV, by decide, by decide, fun H1 r1 s1 hV1 hr1 => ?_⟩
    refine ⟨_, rfl, _, _, rfl, rfl, _, rfl, ite2 (fun e1 => ?_) (fun e1 => ?_)⟩
    · -- any weights
      refine ⟨_, rfl, by show 3 ≤ sizeLine; decide, fun l hl => ⟨a, l, _, rfl, hV1.mono (same_new hl), hV1.ne hl, upd_same, by show 0 < 3; decide, by show 3 ≤ 1000; decide, fun H2 i v s2 hV2 ei => ?_⟩⟩
      have sb2 := (s1.trans (Sb.of (same_new (o := .lst [.int 3, .int 6, .int 30]) hl))).trans s2
      have hv : ∃ z : Nat, v = .int (z : Int) ∧ 0 < z ∧ z ≤ 30 := by
        match i, ei with
        | 0, ei => exact ⟨3, (Option.some.inj ei).symm, by decide, by decide⟩
        | 1, ei => exact ⟨6, (Option.some.inj ei).symm, by decide, by decide⟩
        | 2, ei => exact ⟨30, (Option.some.inj ei).symm, by decide, by decide⟩
        | i + 3, ei => cases ei
      obtain ⟨z, rfl, z0, z30⟩ := hv
      refine ⟨by show 2 ≤ sizeLine; decide, fun o ho => ⟨by show 1 ≤ sizeLine; decide, fun l1 hl1 => ?_⟩⟩
      have so := same_new (o := .tup [.int 1, .int 1]) ho
      have sl := same_new (o := .lst [.ref o]) hl1
      have hV3 := hV2.mono (so.trans sl)
      refine lcRv a (n := 2 ^ n - 1) (fun i y H' => ∃ q, IsF K H' y q ∧ Wb 5 q) hV3 ?_ (by omega) (fun _ => rfl) ?_ ?_ ?_
      · intro R kR
        refine ⟨_, rfl, _, _, rfl, rfl, cp, _, _, rfl, rfl, ?_⟩
        have e : (1 : Int) * 2 ^ ((n : Nat) : Int).toNat - 1 = ((2 ^ n - 1 : Nat) : Int) := by
          rw [es]
          omega
        show R [.int ((1 : Int) * 2 ^ ((n : Nat) : Int).toNat - 1)] _
        rw [e]
        exact kR
      · rintro j y G1 G2 t ⟨q, f, wq⟩
        exact ⟨q, f.tx t, wq⟩
      · intro j hj G sG hVG R kR
        exact ⟨_, rfl, _, rfl, a, z, rfl, hVG, z0, z30, fun G2 y q s' hV' f wq => kR y G2 s' hV' ⟨q, f, wq⟩⟩
      · intro D G ys hD sG hVG eD len all
        obtain ⟨W, fs, rs⟩ := choose_fs all
        have el : G l1 = some (.lst [.ref o]) := sG l1 _ ((hV2.mono so).ne hl1) upd_same
        refine ⟨l1, D, [.ref o], ys, rfl, rfl, el, eD, by show 1 + ys.length ≤ sizeLine; rw [len]; exact Nat.le_trans (by omega) (show 100 ≤ sizeLine by decide), fun p hp => ⟨p, _, rfl, .inl ⟨SqL.of upd_same, fun t ht => ?_⟩⟩⟩
        have sp := same_new (o := .lst ([.ref o] ++ ys)) hp
        have st := same_new (o := .tup ([.ref o] ++ ys)) ht
        have eo : upd (upd G p (.lst ([.ref o] ++ ys))) t (.tup ([.ref o] ++ ys)) o = some (.tup [.int 1, .int 1]) := (sp.trans st) o _ (sG o _ (hV2.ne ho) (sl o _ upd_same))
        have hWl : W.length = 2 ^ n - 1 := by rw [← fs.1, len]
        refine k _ (.ref t) ((1, 1) :: W) ((sb2.trans (Sb.of (so.trans sl))).trans (sG.trans (Sb.of (sp.trans st)))) (hVG.mono (sp.trans st)) ⟨t, _, rfl, SqT.of upd_same, IsFs.cons (fs.tx (Tx.of (sp.trans st))) ⟨o, rfl, SqT.of eo⟩⟩ (CarB.car (b := 5) ⟨n1, n5, ?_, rfl, fun q hq => ?_⟩ (by decide))
        · rw [List.length_cons, hWl]
          omega
        · rcases List.mem_cons.mp hq with e | hq
          · rw [e]
            exact Wb.one.mono (by decide)
          · obtain ⟨i, hi, e⟩ := List.mem_iff_getElem.mp hq
            exact rs i q (by rw [List.getElem?_eq_getElem hi, e])
    refine ⟨_, rfl, rfl, _, rfl, ite2 (fun e2 => ?_) (fun e2 => ?_)⟩
    · -- few great weights
      refine ⟨by show 2 ≤ sizeLine; decide, fun o ho => ⟨by show 1 ≤ sizeLine; decide, fun l1 hl1 => ⟨_, rfl, _, _, rfl, rfl, cp, l1, _, _, rfl, rfl, upd_same, by rw [es]; omega, by rw [es]; omega, ?_, fun F hF => ?_⟩⟩⟩
      · show 1 * ((1 : Int) * 2 ^ ((n : Nat) : Int).toNat).toNat ≤ sizeLine
        rw [es]
        exact Nat.le_trans (by omega) (show 100 ≤ sizeLine by decide)
      have so := same_new (o := .tup [.int 1, .int 1]) ho
      have sl := same_new (o := .lst [.ref o]) hl1
      have er : (List.replicate ((1 : Int) * 2 ^ ((n : Nat) : Int).toNat).toNat [V.ref o]).flatten = List.replicate (2 ^ n) (.ref o) := by
        rw [es, Int.toNat_natCast, List.flatten_replicate_singleton]
      rw [er]
      have sF := same_new (o := .lst (List.replicate (2 ^ n) (.ref o))) hF
      have s3 := (so.trans sl).trans sF
      have hFn1 : H1 F = none := (so.trans sl).free hF
      have hFn : H F = none := Sb.free s1 hV hFn1 hV1
      have hV3 := hV1.mono s3
      have nFa : F ≠ a := hV1.ne hFn1
      refine ⟨_, rfl, a, 3, rfl, hV3, by decide, by decide, fun H3 r3 s4 hV4 hr3 => ⟨_, _, rfl, rfl, 1 + (r3 : Int), rfl, by omega, by omega, for_range (lo := 0) (fun i σ H' => ∃ y6 vs W, σ = [some (.ref a), some (.int (n : Int)), some (.int (r1 : Int)), none, none, some (.ref F), y6, none, none] ∧ Sb a H H' ∧ Vt H' a ∧ H' F = some (.lst vs) ∧ IsFs K H' vs W ∧ W.length = 2 ^ n ∧ W[0]? = some (1, 1) ∧ ∀ q ∈ W, Wb 8 q) ?_ ?_ ?_⟩⟩
      · refine ⟨none, _, List.replicate (2 ^ n) (1, 1), rfl, (s1.trans (Sb.of s3)).trans s4, hV4, s4 F _ nFa upd_same, ?_, by rw [List.length_replicate], by rw [List.getElem?_replicate, if_pos (by omega)], fun q hq => by rw [(List.mem_replicate.mp hq).2]; exact Wb.one.mono (by decide)⟩
        have eo : H3 o = some (.tup [.int 1, .int 1]) := s4 o _ (hV1.ne ho) ((sl.trans sF) o _ upd_same)
        refine ⟨by rw [List.length_replicate, List.length_replicate], fun i hi => ?_⟩
        rw [List.length_replicate] at hi
        refine ⟨.ref o, by rw [List.getElem?_replicate, if_pos hi], ?_⟩
        have e : (List.replicate (2 ^ n) ((1, 1) : Q2)).getD i (0, 1) = (1, 1) := by
          rw [List.getD_eq_getElem?_getD, List.getElem?_replicate, if_pos hi]
          rfl
        rw [e]
        exact ⟨o, rfl, SqT.of eo⟩
      · rintro i σ G hi ⟨y6, vs, W, rfl, sb, hVG, eF, fs, wl, w0, ww⟩
        have hvl : vs.length = 2 ^ n := by rw [fs.1, wl]
        refine ⟨_, rfl, by show 4 ≤ sizeLine; decide, fun l5 hl5 => ⟨a, l5, _, rfl, hVG.mono (same_new hl5), hVG.ne hl5, upd_same, by show 0 < 4; decide, by show 4 ≤ 1000; decide, fun G4 i4 v4 s5 hV5 e4 => ?_⟩⟩
        have sa := (Sb.of (a := a) (same_new (o := .lst [.int 5, .int 9, .int 50, .int 200]) hl5)).trans s5
        refine ⟨_, rfl, by show 3 ≤ sizeLine; decide, fun l6 hl6 => ⟨a, l6, _, rfl, hV5.mono (same_new hl6), hV5.ne hl6, upd_same, by show 0 < 3; decide, by show 3 ≤ 1000; decide, fun G5 i5 v5 s6 hV6 e5 => ?_⟩⟩
        have sb5 := sa.trans ((Sb.of (same_new (o := .lst [.int 1, .int 1, .int 7]) hl6)).trans s6)
        obtain ⟨q, rfl, rfl, wq⟩ := wb8 i4 i5 v4 v5 e4 e5
        refine ⟨by show 2 ≤ sizeLine; decide, fun t ht => ?_⟩
        have st := same_new (o := .tup [.int (q.1 : Int), .int (q.2 : Int)]) ht
        refine ⟨_, rfl, _, rfl, _, rfl, _, _, rfl, rfl, cp, _, _, rfl, rfl, a, 2 ^ n - 1, ?_, hV6.mono st, by omega, by omega, fun G6 r6 s7 hV7 hr6 => ⟨_, _, rfl, rfl, F, vs, 1 + (r6 : Int), 1 + r6, rfl, rfl, ?_, ?_, ?_⟩⟩
        · show [V.ref a, V.int ((1 : Int) * 2 ^ ((n : Nat) : Int).toNat - 1)] = _
          have e : (1 : Int) * 2 ^ ((n : Nat) : Int).toNat - 1 = ((2 ^ n - 1 : Nat) : Int) := by
            rw [es]
            omega
          rw [e]
        · exact (sb5.trans ((Sb.of st).trans s7)) F _ nFa eF
        · have e : (1 : Int) + (r6 : Int) = ((1 + r6 : Nat) : Int) := by omega
          rw [e]
          exact ixN_nat (by omega)
        · have eF7 : G6 F = some (.lst vs) := (sb5.trans ((Sb.of st).trans s7)) F _ nFa eF
          have tF := Tx.lst (o := .lst (vs.set (1 + r6) (.ref t))) eF7
          have et : G6 t = some (.tup [.int (q.1 : Int), .int (q.2 : Int)]) := s7 t _ (hV6.ne ht) upd_same
          have tx := hVG.tx (sb5.trans ((Sb.of st).trans s7))
          refine ⟨_, vs.set (1 + r6) (.ref t), W.set (1 + r6) q, rfl, sb_mut (sb.trans (sb5.trans ((Sb.of st).trans s7))) hFn, vt_mut hV7 nFa, upd_same, (fs.tx (tx.trans tF)).set (IsF.tx ⟨t, rfl, SqT.of et⟩ tF) _, by rw [List.length_set, wl], ?_, fun p hp => ?_⟩
          · rw [List.getElem?_set_ne (by omega)]
            exact w0
          · rcases List.mem_or_eq_of_mem_set hp with hp | hp
            · exact ww p hp
            · rw [hp]
              exact wq
      · rintro σ G ⟨y6, vs, W, rfl, sb, hVG, eF, fs, wl, w0, ww⟩
        have hvl : vs.length = 2 ^ n := by rw [fs.1, wl]
        refine ⟨by show 2 ≤ sizeLine; decide, fun o2 ho2 => ⟨by show 1 ≤ sizeLine; decide, fun l2 hl2 => ⟨_, rfl, 1, rfl, F, vs, rfl, SqL.of ?_, fun p hp => ⟨l2, p, [.ref o2], cutV vs (some 1) none, rfl, rfl, ?_, upd_same, ?_, fun p2 hp2 => ⟨p2, _, rfl, .inl ⟨SqL.of upd_same, fun t ht => ?_⟩⟩⟩⟩⟩⟩
        · exact ((same_new ho2).trans (same_new hl2)) F _ eF
        · exact (same_new hp) l2 _ upd_same
        · rw [cut_one]
          show 1 + (vs.drop 1).length ≤ sizeLine
          rw [List.length_drop, hvl]
          exact Nat.le_trans (by omega) (show 100 ≤ sizeLine by decide)
        · have so2 := same_new (o := .tup [.int 1, .int 1]) ho2
          have sl2 := same_new (o := .lst [.ref o2]) hl2
          have sp := same_new (o := .lst (cutV vs (some 1) none)) hp
          have sp2 := same_new (o := .lst ([.ref o2] ++ cutV vs (some 1) none)) hp2
          have st := same_new (o := .tup ([.ref o2] ++ cutV vs (some 1) none)) ht
          have sall := (so2.trans sl2).trans ((sp.trans sp2).trans st)
          have eo := ((sl2.trans (sp.trans sp2)).trans st) o2 _ upd_same
          have fs2 : IsFs K G (cutV vs (some 1) none) (W.drop 1) := (cut_one vs).symm ▸ ⟨by rw [List.length_drop, List.length_drop, fs.1], fun i hi => by
            rw [List.length_drop] at hi
            obtain ⟨v, ev, fv⟩ := fs.2 (1 + i) (by omega)
            refine ⟨v, by rw [List.getElem?_drop]; exact ev, ?_⟩
            rw [List.getD_eq_getElem?_getD, List.getElem?_drop, ← List.getD_eq_getElem?_getD]
            exact fv⟩
          refine k _ (.ref t) ((1, 1) :: W.drop 1) (sb.trans (Sb.of sall)) (hVG.mono sall) ⟨t, _, rfl, SqT.of upd_same, IsFs.cons (fs2.tx (Tx.of sall)) ⟨o2, rfl, SqT.of eo⟩⟩ (CarB.car (b := 8) ⟨n1, n5, ?_, rfl, fun q hq => ?_⟩ (by decide))
          · rw [List.length_cons, List.length_drop, wl]
            omega
          · rcases List.mem_cons.mp hq with e | hq
            · rw [e]
              exact Wb.one.mono (by decide)
            · exact ww q (List.mem_of_mem_drop hq)
    · -- free and knotted
      refine nx1 ?_
      dsimp only
      refine sq1 (as1 (ca1 (lcRv a (n := n) (fun i y H' => ∃ q, IsF K H' y q ∧ Wb 5 q) hV1 ?_ (by omega) ?_ ?_ ?_ ?_)))
      · intro R kR
        exact ⟨_, rfl, kR⟩
      · exact fun _ => rfl
      · rintro j y G1 G2 t ⟨q, f, wq⟩
        exact ⟨q, f.tx t, wq⟩
      · intro j hj G sG hVG R kR
        refine ⟨_, rfl, _, rfl, by show 3 ≤ sizeLine; decide, fun l hl => ⟨a, l, _, rfl, hVG.mono (same_new hl), hVG.ne hl, upd_same, by show 0 < 3; decide, by show 3 ≤ 1000; decide, fun H2 i v s2 hV2 ei => ?_⟩⟩
        have sb2 := (Sb.of (a := a) (same_new (o := .lst [.int 2, .int 4, .int 12]) hl)).trans s2
        have hv : ∃ z : Nat, v = .int (z : Int) ∧ 0 < z ∧ z ≤ 30 := by
          match i, ei with
          | 0, ei => exact ⟨2, (Option.some.inj ei).symm, by decide, by decide⟩
          | 1, ei => exact ⟨4, (Option.some.inj ei).symm, by decide, by decide⟩
          | 2, ei => exact ⟨12, (Option.some.inj ei).symm, by decide, by decide⟩
          | i + 3, ei => cases ei
        obtain ⟨z, rfl, z0, z30⟩ := hv
        exact ⟨a, z, rfl, hV2, z0, z30, fun G2 y q s' hV' f wq => kR y G2 (sb2.trans s') hV' ⟨q, f, wq⟩⟩
      · intro D G ys hD sG hVG eD len all
        obtain ⟨W0, fs, rs⟩ := choose_fs all
        refine ⟨D, W0, n, rfl, ⟨ys, eD, fs⟩, by rw [← fs.1, len], n1, n5, fun q hq => ?_, fun H3 c W s3 hC C => ?_⟩
        · obtain ⟨i, hi, e⟩ := List.mem_iff_getElem.mp hq
          exact rs i q (by rw [List.getElem?_eq_getElem hi, e])
        have sb3 := (s1.trans sG).trans (Sb.of s3)
        have hV3 := hVG.mono s3
        refine ⟨_, rfl, rfl, _, rfl, ite2 (fun e3 => ?_) (fun e3 => ?_)⟩
        · exact ⟨_, rfl, k _ c W sb3 hV3 hC (C.car (by decide))⟩
        have i1 : ¬ (r1 : Int) < 2 := fun h => e1 (decide_eq_true h)
        have i2 : ¬ (r1 : Int) = 2 := fun h => e2 (decide_eq_true (congrArg V.int h))
        have i3 : ¬ (r1 : Int) = 3 := fun h => e3 (decide_eq_true (congrArg V.int h))
        have i45 : r1 = 4 ∨ r1 = 5 := by omega
        refine ⟨_, rfl, _, rfl, ?_⟩
        refine ⟨by show 2 ≤ sizeLine; decide, fun t1 h1 => ⟨by show 2 ≤ sizeLine; decide, fun t2 h2 => ⟨by show 2 ≤ sizeLine; decide, fun t3 h3 => ⟨by show 2 ≤ sizeLine; decide, fun t4 h4 => ⟨by show 4 ≤ sizeLine; decide, fun la h5 => ?_⟩⟩⟩⟩⟩
        refine ⟨by show 2 ≤ sizeLine; decide, fun t6 h6 => ⟨by show 2 ≤ sizeLine; decide, fun t7 h7 => ⟨by show 2 ≤ sizeLine; decide, fun t8 h8 => ⟨by show 2 ≤ sizeLine; decide, fun t9 h9 => ⟨by show 4 ≤ sizeLine; decide, fun lb ha => ⟨by show 2 ≤ sizeLine; decide, fun lc hb => ?_⟩⟩⟩⟩⟩⟩
        have c11 := same_new (o := .lst [.ref la, .ref lb]) hb
        have c10 := (same_new (o := .lst [.ref t6, .ref t7, .ref t8, .ref t9]) ha).trans c11
        have c9 := (same_new (o := .tup [.int 1, .int 5]) h9).trans c10
        have c8 := (same_new (o := .tup [.int 1, .int 1]) h8).trans c9
        have c7 := (same_new (o := .tup [.int 2, .int 1]) h7).trans c8
        have c6 := (same_new (o := .tup [.int 1, .int 2]) h6).trans c7
        have c5 := (same_new (o := .lst [.ref t1, .ref t2, .ref t3, .ref t4]) h5).trans c6
        have c4 := (same_new (o := .tup [.int 9, .int 2]) h4).trans c5
        have c3 := (same_new (o := .tup [.int 1, .int 1]) h3).trans c4
        have c2 := (same_new (o := .tup [.int 3, .int 1]) h2).trans c3
        have c1 := (same_new (o := .tup [.int 2, .int 1]) h1).trans c2
        have g1 := c2 t1 _ upd_same
        have g2 := c3 t2 _ upd_same
        have g3 := c4 t3 _ upd_same
        have g4 := c5 t4 _ upd_same
        have g5 := c6 la _ upd_same
        have g6 := c7 t6 _ upd_same
        have g7 := c8 t7 _ upd_same
        have g8 := c9 t8 _ upd_same
        have g9 := c10 t9 _ upd_same
        have ga := c11 lb _ upd_same
        have nv := hV3.mono c1
        have n5a : la ≠ a := (hV3.mono ((((same_new h1).trans (same_new h2)).trans (same_new h3)).trans (same_new h4))).ne h5
        have n10 : lb ≠ a := (hV3.mono ((((((((same_new h1).trans (same_new h2)).trans (same_new h3)).trans (same_new h4)).trans (same_new h5)).trans (same_new h6)).trans (same_new h7)).trans ((same_new h8).trans (same_new h9)))).ne ha
        have fin : ∀ H' v W', Sb a _ H' → Vt H' a → IsC K H' v W' → CarB 110 n W' → _ := fun H' v W' s hV' hC' C' => k H' v W' (sb3.trans ((Sb.of c1).trans s)) hV' hC' (C'.car (by decide))
        rcases i45 with rfl | rfl
        · refine ⟨_, rfl, _, _, rfl, rfl, lc, [.ref la, .ref lb], 0, .ref la, rfl, rfl, SqL.of upd_same, rfl, a, la, c, W, n, _, rfl, nv, hC.mono c1, C, n5a, g5, by show 0 < 4; decide, by show 4 ≤ 1000; decide, fun v hv => ?_, fin⟩
          simp only [List.mem_cons, List.not_mem_nil, or_false] at hv
          rcases hv with rfl | rfl | rfl | rfl
          · exact ⟨(2, 1), ⟨t1, rfl, SqT.of g1⟩, wb4 (by decide)⟩
          · exact ⟨(3, 1), ⟨t2, rfl, SqT.of g2⟩, wb4 (by decide)⟩
          · exact ⟨(1, 1), ⟨t3, rfl, SqT.of g3⟩, wb4 (by decide)⟩
          · exact ⟨(9, 2), ⟨t4, rfl, SqT.of g4⟩, wb4 (by decide)⟩
        · refine ⟨_, rfl, _, _, rfl, rfl, lc, [.ref la, .ref lb], 1, .ref lb, rfl, rfl, SqL.of upd_same, rfl, a, lb, c, W, n, _, rfl, nv, hC.mono c1, C, n10, ga, by show 0 < 4; decide, by show 4 ≤ 1000; decide, fun v hv => ?_, fin⟩
          simp only [List.mem_cons, List.not_mem_nil, or_false] at hv
          rcases hv with rfl | rfl | rfl | rfl
          · exact ⟨(1, 2), ⟨t6, rfl, SqT.of g6⟩, wb4 (by decide)⟩
          · exact ⟨(2, 1), ⟨t7, rfl, SqT.of g7⟩, wb4 (by decide)⟩
          · exact ⟨(1, 1), ⟨t8, rfl, SqT.of g8⟩, wb4 (by decide)⟩
          · exact ⟨(1, 5), ⟨t9, rfl, SqT.of g9⟩, wb4 (by decide)⟩
end
end G7
end

section
set_option Elab.async false
set_option linter.all false
set_option maxRecDepth 100000
set_option maxHeartbeats 4000000
namespace G7
open PySem PySem.Spec PyProof.Rows L2
/-! data that repr can show -/
structure OkD (d : PyData) (n k : Nat) : Prop where
  sh : d.showable = true
  nd : d.hasDict = false
  ls : d.leavesShort 200 = true
  bk : d.bulk ≤ n
  dp : d.depth ≤ k
structure OkA (ds : List PyData) (n k : Nat) : Prop where
  sh : PyData.showableAll ds = true
  nd : PyData.hasDictAll ds = false
  ls : PyData.leavesShortAll 200 ds = true
  bk : PyData.bulkAll ds ≤ n
  dp : PyData.depthAll ds ≤ k
theorem OkD.fits {d : PyData} {n k : Nat} (h : OkD d n k) (hn : n ≤ 10000) : d.shown.length ≤ sizeLine := by
  have e := PyData.shown_le_bulk 200 (by decide) d h.ls
  have b := h.bk
  have e2 : (200 + 2) * d.bulk ≤ 202 * 10000 := Nat.mul_le_mul (Nat.le_refl _) (Nat.le_trans b hn)
  exact Nat.le_trans e (Nat.le_trans (Nat.add_le_add_right e2 200) (by decide))
theorem OkA.nil {k : Nat} : OkA [] 0 k := ⟨by simp [PyData.showableAll], by simp [PyData.hasDictAll], by simp [PyData.leavesShortAll], by simp [PyData.bulkAll], by simp [PyData.depthAll]⟩
theorem OkA.cons {d : PyData} {ds : List PyData} {n m k : Nat} (a : OkD d n k) (b : OkA ds m k) : OkA (d :: ds) (n + 1 + m) k :=
  ⟨by simp [PyData.showableAll, a.sh, b.sh], by simp [PyData.hasDictAll, a.nd, b.nd], by simp [PyData.leavesShortAll, a.ls, b.ls],
   by simp only [PyData.bulkAll]; have := a.bk; have := b.bk; omega, by simp only [PyData.depthAll]; have := a.dp; have := b.dp; omega⟩
theorem OkA.all {n k : Nat} : ∀ {ds : List PyData}, (∀ d ∈ ds, OkD d n k) → OkA ds (ds.length * (n + 1)) k
  | [], _ => by
    rw [List.length_nil, Nat.zero_mul]
    exact .nil
  | d :: ds, h => by
    have r := OkA.cons (h d (List.mem_cons_self ..)) (OkA.all fun x hx => h x (List.mem_cons_of_mem _ hx))
    rw [show (d :: ds).length * (n + 1) = n + 1 + ds.length * (n + 1) by rw [List.length_cons, Nat.succ_mul, Nat.add_comm]]
    exact r
theorem OkA.mono {ds : List PyData} {n m k j : Nat} (h : OkA ds n k) (a : n ≤ m) (b : k ≤ j) : OkA ds m j := ⟨h.sh, h.nd, h.ls, Nat.le_trans h.bk a, Nat.le_trans h.dp b⟩
theorem OkD.mono {d : PyData} {n m k j : Nat} (h : OkD d n k) (a : n ≤ m) (b : k ≤ j) : OkD d m j := ⟨h.sh, h.nd, h.ls, Nat.le_trans h.bk a, Nat.le_trans h.dp b⟩
theorem OkA.tup {ds : List PyData} {n k : Nat} (h : OkA ds n k) : OkD (.tuple ds) n (k + 1) :=
  ⟨by simp only [PyData.showable]; exact h.sh, by simp only [PyData.hasDict]; exact h.nd, by simp only [PyData.leavesShort]; exact h.ls, by simp only [PyData.bulk]; exact h.bk, by simp only [PyData.depth]; have := h.dp; omega⟩
theorem OkA.lst {ds : List PyData} {n k : Nat} (h : OkA ds n k) : OkD (.list ds) n (k + 1) :=
  ⟨by simp only [PyData.showable]; exact h.sh, by simp only [PyData.hasDict]; exact h.nd, by simp only [PyData.leavesShort]; exact h.ls, by simp only [PyData.bulk]; exact h.bk, by simp only [PyData.depth]; have := h.dp; omega⟩
theorem okd_int {i : Int} {k : Nat} (h : i.natAbs.log2 < 120) : OkD (.int i) 0 k := by
  refine ⟨by simp only [PyData.showable]; exact decide_eq_true (Nat.lt_trans h (by decide)), by simp only [PyData.hasDict], ?_, by simp only [PyData.bulk]; exact Nat.le_refl _, by simp only [PyData.depth]; exact Nat.zero_le _⟩
  have e := int_text_length_le (k := 120) (by decide) h
  simp only [PyData.leavesShort, PyData.shown]
  refine decide_eq_true ?_
  rw [PySem.ofString_length]
  omega
theorem okd_nat {n k : Nat} (h : n < 2 ^ 110) : OkD (.int (n : Int)) 0 k := okd_int (by
  rw [Int.natAbs_natCast]
  by_cases e : n = 0
  · subst e
    decide
  · exact Nat.lt_trans ((Nat.log2_lt e).mpr h) (by decide))
theorem okd_bool {b : Bool} {k : Nat} : OkD (.bool b) 0 k := ⟨by simp [PyData.showable], by simp [PyData.hasDict], by simp [PyData.leavesShort], by simp [PyData.bulk], by simp [PyData.depth]⟩
theorem okd_none {k : Nat} : OkD .none 0 k := ⟨by simp [PyData.showable], by simp [PyData.hasDict], by simp [PyData.leavesShort], by simp [PyData.bulk], by simp [PyData.depth]⟩
theorem okd_wd {wd : Str} {k : Nat} (h : Wd wd) : OkD (.str wd) 20 k := by
  refine ⟨by simp [PyData.showable], by simp [PyData.hasDict], ?_, ?_, by simp [PyData.depth]⟩
  · simp only [PyData.leavesShort]
    rcases h with rfl | rfl <;> decide +kernel
  · simp only [PyData.bulk]
    rcases h with rfl | rfl <;> decide +kernel
theorem okd_frac {q : Q2} {k : Nat} (h : q.1 < 2 ^ 110 ∧ q.2 < 2 ^ 110) : OkD (fracD q) 2 (k + 1) := (OkA.cons (okd_nat h.1) (OkA.cons (okd_nat h.2) .nil)).tup
theorem okd_pair {p : Nat × Nat} {k : Nat} (h : p.1 < 2 ^ 110 ∧ p.2 < 2 ^ 110) : OkD (pairD p) 2 (k + 1) := (OkA.cons (okd_nat h.1) (OkA.cons (okd_nat h.2) .nil)).tup
theorem okd_car {n : Nat} {W : List Q2} (c : Car n W) : OkD (carD W) 100 2 := by
  refine (OkA.mono (k := 1) (OkA.all (n := 2) fun d hd => ?_) ?_ (Nat.le_refl _)).tup
  · obtain ⟨q, hq, rfl⟩ := List.mem_map.mp hd
    have w := (c.wt q hq).bd
    exact okd_frac ⟨w.1, w.2.1⟩
  · rw [List.length_map]
    have := c.len32
    omega
theorem okd_cl {n k : Nat} {wd : Str} {W : List Q2} (h : Wd wd) (c : Car n W) (hk : k ≤ n) : OkD (clD wd W k) 200 3 :=
  ((OkA.cons (okd_wd (k := 2) h) (OkA.cons (okd_car c) (OkA.cons (okd_nat (Nat.lt_of_le_of_lt hk (Nat.lt_of_le_of_lt c.hi (by decide)))) .nil))).mono (by decide) (Nat.le_refl _)).tup
theorem rd {K : PySem.W.Frag} {v : V} {d : PyData} {H : Hp} {Q : VK} {n k : Nat} (o : OkD d n k) (hn : n ≤ 10000) (hk : k ≤ 30) (p : Dp K H v d) (q : Q (.str d.shown) H) : rReprD K [v] H Q :=
  ⟨v, d, rfl, p, o.sh, o.nd, Nat.le_trans o.dp hk, o.fits hn, q⟩
/-! what a paper shows, as membership -/
theorem wN_wL : ¬ wN = wL := by decide +kernel
theorem mem_barL {R : List Q2} {k : Nat} {p : Nat × Nat} : p ∈ barL R k ↔ p ∈ pairs R.length k ∧ barsF R k p.1 p.2 = true := List.mem_filter
theorem acc_mem (R : List Q2) (k : Nat) (ns : List Int) : acc wN R k ns = (barL R k).any fun q => PyData.eqv (pairD q) (.tuple (intsD ns)) := by
  have e : (fun q => PyData.eqv (pairD q) (.tuple (intsD ns))) = fun q : Nat × Nat => decide ([(q.1 : Int), (q.2 : Int)] = ns) := by
    funext q
    exact paper_eqv [(q.1 : Int), (q.2 : Int)] ns
  rw [e]
  unfold acc
  rw [if_neg wN_wL]
  match ns with
  | [] => exact (List.any_eq_false.mpr fun q _ => by simp).symm
  | [_] => exact (List.any_eq_false.mpr fun q _ => by simp).symm
  | _ :: _ :: _ :: _ => exact (List.any_eq_false.mpr fun q _ => by simp).symm
  | [lo, hi] =>
    rw [Bool.eq_iff_iff]
    simp only [Bool.and_eq_true, decide_eq_true_eq, List.any_eq_true]
    constructor
    · rintro ⟨h1, h2, h3, h4, h5⟩
      refine ⟨(lo.toNat, hi.toNat), mem_barL.mpr ⟨mem_pairs (by omega) (by omega) (by omega), h5⟩, ?_⟩
      rw [Int.toNat_of_nonneg h1, Int.toNat_of_nonneg (by omega)]
    · rintro ⟨q, hq, e⟩
      cases e
      obtain ⟨m, b⟩ := mem_barL.mp hq
      have pm := pairs_mem m
      refine ⟨by omega, by omega, by omega, by omega, ?_⟩
      rw [Int.toNat_natCast, Int.toNat_natCast]
      exact b
theorem barF_mem {R : List Q2} {k : Nat} {p : Nat × Nat} (h : barF R k = some p) : p ∈ barL R k := by
  rw [← barF_head] at h
  exact List.mem_of_head? h
theorem barF_isNone {R : List Q2} {k : Nat} : (barF R k).isNone = decide (barL R k = []) := by
  rw [← barF_head]
  cases barL R k with
  | nil => rfl
  | cons a l => rfl
theorem acc_own (R : List Q2) (k : Nat) : acc (wordOf (barF R k)) R k (paperOf (barF R k)) = true := by
  cases e : barF R k with
  | none =>
    show acc wL R k [] = true
    unfold acc
    rw [if_pos rfl, e]
    rfl
  | some p =>
    show acc wN R k [(p.1 : Int), (p.2 : Int)] = true
    rw [acc_mem]
    exact List.any_eq_true.mpr ⟨p, barF_mem e, by
      show PyData.eqv (.tuple (intsD [(p.1 : Int), (p.2 : Int)])) (.tuple (intsD [(p.1 : Int), (p.2 : Int)])) = true
      rw [paper_eqv]
      exact decide_eq_true rfl⟩
theorem wordOf_wd (o : Option (Nat × Nat)) : Wd (wordOf o) := by
  cases o with
  | none => exact .inl rfl
  | some p => exact .inr rfl
/-! lists of pairs as data -/
def plD (ps : List (Nat × Nat)) : PyData := .list (ps.map pairD)
theorem dp_pairs {K : PySem.W.Frag} {H : Hp} : ∀ {vs : List V} {ps : List (Nat × Nat)}, vs.length = ps.length → (∀ (i : Nat) v p, vs[i]? = some v → ps[i]? = some p → IsP K H v (some p)) → DpAll K H vs (ps.map pairD)
  | [], [], _, _ => .nil
  | [], _ :: _, h, _ => by cases h
  | _ :: _, [], h, _ => by cases h
  | v :: vs, q :: qs, h, f => by
    obtain ⟨a, rfl, t⟩ := f 0 v q rfl rfl
    exact .cons (.tup t (.cons (.int _) (.cons (.int _) .nil))) (dp_pairs (Nat.succ.inj h) fun i u p e1 e2 => f (i + 1) u p e1 e2)
theorem dp_pl {K : PySem.W.Frag} {H : Hp} {l : Addr} {ps : List (Nat × Nat)} (h : IsPL K H l ps) : Dp K H (.ref l) (plD ps) := by
  obtain ⟨vs, e, f⟩ := h
  refine .lst (SqL.of e) (dp_pairs f.1 fun i v p e1 e2 => ?_)
  obtain ⟨u, eu, fu⟩ := f.2 i p e2
  rw [e1] at eu
  cases eu
  exact fu
theorem pairs_lay : ∀ ps : List (Nat × Nat), PyData.canLayAll0 (ps.map pairD) = true
  | [] => by simp [PyData.canLayAll0]
  | p :: ps => by simp [PyData.canLayAll0, pairD, PyData.canLay0, pairs_lay ps]
theorem pairs_depth : ∀ ps : List (Nat × Nat), PyData.depthAll (ps.map pairD) ≤ 1
  | [] => by simp [PyData.depthAll]
  | p :: ps => by
    have h1 := pairs_depth ps
    have h2 : (pairD p).depth = 1 := by simp [pairD, PyData.depth, PyData.depthAll]
    simp only [List.map_cons, PyData.depthAll]
    omega
theorem pl_shaped (ps : List (Nat × Nat)) : SeqAt.shaped (plD ps) = true := by
  have h1 := pairs_lay ps
  have h2 := pairs_depth ps
  show (PyData.canLay0 (.list (ps.map pairD)) && decide (PyData.depth (.list (ps.map pairD)) ≤ 64)) = true
  rw [show PyData.canLay0 (.list (ps.map pairD)) = true by simp only [PyData.canLay0]; exact h1, decide_eq_true (show PyData.depth (.list (ps.map pairD)) ≤ 64 by simp only [PyData.depth]; omega)]
  rfl
theorem pl_eqv (ps : List (Nat × Nat)) : PyData.eqv (plD ps) (.list []) = decide (ps = []) := by
  cases ps with
  | nil => simp [plD, PyData.eqv, PyData.eqvAll]
  | cons p ps => simp [plD, PyData.eqv, PyData.eqvAll]
theorem nil_shaped : SeqAt.shaped (.list []) = true := pl_shaped []
theorem dp_bls {K : PySem.W.Frag} {H : Hp} : ∀ bs : List Bool, DpAll K H (bs.map V.bl) (bs.map PyData.bool)
  | [] => .nil
  | b :: bs => .cons (.bl b) (dp_bls bs)
theorem okd_bls (bs : List Bool) (h : bs.length ≤ 100) : OkD (.list (bs.map PyData.bool)) 100 2 := by
  refine (OkA.mono (k := 1) (OkA.all (n := 0) fun d hd => ?_) ?_ (Nat.le_refl _)).lst
  · obtain ⟨q, hq, rfl⟩ := List.mem_map.mp hd
    exact okd_bool
  · rw [List.length_map]
    omega
end G7
end

section
set_option Elab.async false
set_option linter.all false
set_option maxRecDepth 100000
set_option maxHeartbeats 4000000
namespace G7
open PySem PySem.Spec PyProof.Rows L2
section
variable {P : Program} {w : World} {K : PySem.W.Frag} {mg : Str → Option Value} {base : Heap}
def sp_carrier (K : PySem.W.Frag) : Sp := fun vs H Q _ => ∃ a : Addr, vs = [.ref a] ∧ Vt H a ∧ ∀ H' v W n, Sb a H H' → Vt H' a → IsC K H' v W → Car n W → Q v H'
abbrev N_law_carrier : List Str := ["_law_vat_here"]
theorem sc_law_carrier : FnScope N_law_carrier ["_law_vat_here"] (defScope s_law_carrier) := ⟨rfl, rfl, rfl, by decide +kernel, rfl, by decide +kernel, by decide +kernel⟩
theorem ok_law_carrier (T : Tp K mg) : FnOk P w K mg base CX0 7 (fA K "_law_carrier") (fD K "_law_carrier") ["_law_vat_here"] (sp_carrier K) := by
  refine T.d_law_carrier.F.ok sc_law_carrier (fun vs H Q E h => ?_) (fun cdv A outer s H vs Q E hr h => ?_)
  · obtain ⟨_, rfl, _⟩ := h
    rfl
  · obtain ⟨a, rfl, hV, k⟩ := h
    refine ⟨_, PSs.nox ((pss_one (ps_ret (pe_call (ok_law_bench T) (hr.mono (by decide)) (by rfl) T.d_law_bench.g T.d_law_bench.F.kp T.b_law_bench .nil pass0 (pa_cons (pv 0) (pa_cons (pe_call (ok_law_of T) (hr.mono (by decide)) (by rfl) T.d_law_of.g T.d_law_of.F.kp T.b_law_of .nil pass0 (pa_cons (pv 0) (pa_cons (pe_lst (pa_cons pe_int (pa_cons pe_int (pa_cons pe_int (pa_cons pe_int (pa_cons pe_int (pa_cons pe_int (pa_cons pe_int (pa_cons pe_int (pa_cons pe_int (pa_cons pe_int pa_nil))))))))))) pa_nil))) pa_nil)))))), ?_⟩
    refine ⟨_, rfl, _, rfl, by show 10 ≤ sizeLine; decide, fun l hl => ⟨a, l, _, rfl, hV.mono (same_new hl), hV.ne hl, upd_same, by show 0 < 10; decide, by show 10 ≤ 1000; decide, fun H2 i v s2 hV2 ei => ?_⟩⟩
    have sb2 := (Sb.of (a := a) (same_new (o := .lst [.int 1, .int 2, .int 2, .int 2, .int 3, .int 3, .int 3, .int 3, .int 4, .int 5]) hl)).trans s2
    have hv : ∃ z : Nat, v = .int (z : Int) ∧ 1 ≤ z ∧ z ≤ 5 := by
      match i, ei with
      | 0, ei => exact ⟨1, (Option.some.inj ei).symm, by decide, by decide⟩
      | 1, ei => exact ⟨2, (Option.some.inj ei).symm, by decide, by decide⟩
      | 2, ei => exact ⟨2, (Option.some.inj ei).symm, by decide, by decide⟩
      | 3, ei => exact ⟨2, (Option.some.inj ei).symm, by decide, by decide⟩
      | 4, ei => exact ⟨3, (Option.some.inj ei).symm, by decide, by decide⟩
      | 5, ei => exact ⟨3, (Option.some.inj ei).symm, by decide, by decide⟩
      | 6, ei => exact ⟨3, (Option.some.inj ei).symm, by decide, by decide⟩
      | 7, ei => exact ⟨3, (Option.some.inj ei).symm, by decide, by decide⟩
      | 8, ei => exact ⟨4, (Option.some.inj ei).symm, by decide, by decide⟩
      | 9, ei => exact ⟨5, (Option.some.inj ei).symm, by decide, by decide⟩
      | i + 10, ei => cases ei
    obtain ⟨z, rfl, z0, z5⟩ := hv
    exact ⟨a, z, rfl, hV2, z0, z5, fun H3 u W s3 hV3 hC C => k H3 u W z (sb2.trans s3) hV3 hC C⟩
def sp_laps (K : PySem.W.Frag) : Sp := fun vs H Q _ => ∃ (a : Addr) (xs : List V), vs = [.ref a, .int 4] ∧ SqL K H a xs ∧ xs.length ≤ 63 ∧ ∀ H' l m, Same H H' → H l = none → m ≤ 4 → H' l = some (.lst (upTo m)) → Q (.ref l) H'
abbrev N_law_laps : List Str := ["_law_script", "_law_most"]
theorem sc_law_laps : FnScope N_law_laps ["_law_script", "_law_most"] (defScope s_law_laps) := ⟨rfl, rfl, rfl, by decide +kernel, rfl, by decide +kernel, by decide +kernel⟩
theorem ok_law_laps (T : Tp K mg) : FnOk P w K mg base CX0 1 (fA K "_law_laps") (fD K "_law_laps") ["_law_script", "_law_most"] (sp_laps K) := by
  refine T.d_law_laps.F.ok sc_law_laps (fun vs H Q E h => ?_) (fun cdv A outer s H vs Q E hr h => ?_)
  · obtain ⟨_, _, rfl, _⟩ := h
    rfl
  · obtain ⟨a, xs, rfl, hS, hl, k⟩ := h
    refine ⟨_, PSs.nox ((pss_one (ps_ret (pe_listRg rfl (by rfl) T.z_list (prg_1 (by rfl) T.z_range (pe_callB (call_max2 rfl) (by rfl) T.z_max (by decide +kernel) (pa_cons pe_int (pa_cons (pe_callB (call_min2 rfl) (by rfl) T.z_min (by decide +kernel) (pa_cons (pe_callB call_len_seq (by rfl) T.z_len PySem.boot_len (pa_cons (pv 0) pa_nil)) (pa_cons (pv 1) pa_nil))) pa_nil)))))))), ?_⟩
    have hm : ∃ m : Nat, m ≤ 4 ∧ (if (if (4 : Int) < (xs.length : Int) then (4 : Int) else (xs.length : Int)) > 2 then (if (4 : Int) < (xs.length : Int) then (4 : Int) else (xs.length : Int)) else 2) = (m : Int) := by
      by_cases h1 : (4 : Int) < (xs.length : Int)
      · rw [if_pos h1, if_pos (by decide)]
        exact ⟨4, by decide, rfl⟩
      · rw [if_neg h1]
        by_cases h2 : (xs.length : Int) > 2
        · rw [if_pos h2]
          exact ⟨xs.length, by omega, rfl⟩
        · rw [if_neg h2]
          exact ⟨2, by decide, rfl⟩
    obtain ⟨m, m4, em⟩ := hm
    refine ⟨_, rfl, a, xs, rfl, .inl hS, _, rfl, _, _, rfl, _, _, rfl, _, rfl, ?_⟩
    rw [em]
    refine ⟨?_, fun l hl => ?_⟩
    · exact RgOk.of_le (by omega) (by omega) (by omega) (by omega)
    · have e : rgV 0 (m : Int) = upTo m := by
        unfold rgV
        rw [Int.sub_zero, Int.toNat_natCast]
        exact List.map_congr_left fun i _ => by rw [Int.zero_add]
      exact k _ l m (same_new hl) hl m4 (by rw [e]; exact upd_same)
end
end G7
end

section
set_option Elab.async false
set_option linter.all false
set_option maxRecDepth 100000
set_option maxHeartbeats 4000000
namespace G7
open PySem PySem.Spec PyProof.Rows L2
section
variable {K : PySem.W.Frag} {x qual : Str} {params : Arguments} {body : List Stmt} {scope : Scope} {kws : List (Str × V)} {f : Addr} {fd : FuncData} {ps ks : List Str}
def kw0 {α : Type} : List α → List α → List α
  | [], ws => ws
  | _ :: _, _ => []
def kw1 {α : Type} : List α → List α → List α
  | [u], ws => u :: ws
  | _, _ => []
theorem op_inDK {X : Cx} {K : PySem.W.Frag} (hk : X.K = K) (hu : X.A.units + 65 < cLine) : OpR X (compareOp .In) (rInD K) := hk ▸ op_inD hu
theorem ix_listK {X : Cx} {K : PySem.W.Frag} (hk : X.K = K) : IxR X (rIxL K) := hk ▸ ix_list
theorem op_neDK {X : Cx} {K : PySem.W.Frag} (hk : X.K = K) (hu : X.A.units + 64 < cLine) : OpR X (compareOp .NotEq) (rNeD K) := hk ▸ op_neD hu
theorem kb0 (F : FunD K x qual params body scope [] kws f fd) (hp : ps ≠ [])
    (h : ∀ (kV doc pm : Value) (an : Option Addr) (cdv ct : Value) (ws : List Value), ws.length = ps.length → bindArgs (PySem.W.fnOf x qual params body scope .none kV doc pm an cdv ct) ⟨[], ks.zip ws⟩ = pure (ps.zip ws)) :
    KBinds K fd ps ks kw0 kw0 := by
  constructor
  · intro s us ws _ hl
    obtain ⟨oc, od, dV, kV, doc, pm, an, cdv, ct, osl, rfl, lk, hcd, hD, hK⟩ := F.ex
    rcases hD with ⟨_, rfl⟩ | ⟨e, _⟩
    · cases us with
      | nil => exact .of_eq (h kV doc pm an cdv ct ws hl)
      | cons u us => exact absurd (List.eq_nil_of_length_eq_zero hl.symm) hp
    · exact absurd rfl e
  · intro vs us zs ws r rz
    cases r with
    | nil => exact rz
    | cons => exact .nil
theorem kb1 (F : FunD K x qual params body scope [] kws f fd) (hp : ps ≠ [])
    (h : ∀ (kV doc pm : Value) (an : Option Addr) (cdv ct : Value) (u : Value) (ws : List Value), (u :: ws).length = ps.length → bindArgs (PySem.W.fnOf x qual params body scope .none kV doc pm an cdv ct) ⟨[u], ks.zip ws⟩ = pure (ps.zip (u :: ws))) :
    KBinds K fd ps ks kw1 kw1 := by
  constructor
  · intro s us ws _ hl
    obtain ⟨oc, od, dV, kV, doc, pm, an, cdv, ct, osl, rfl, lk, hcd, hD, hK⟩ := F.ex
    rcases hD with ⟨_, rfl⟩ | ⟨e, _⟩
    · match us, hl with
      | [], hl => exact absurd (List.eq_nil_of_length_eq_zero hl.symm) hp
      | [u], hl => exact .of_eq (h kV doc pm an cdv ct u ws hl)
      | _ :: _ :: _, hl => exact absurd (List.eq_nil_of_length_eq_zero hl.symm) hp
    · exact absurd rfl e
  · intro vs us zs ws r rz
    cases r with
    | nil => exact .nil
    | cons a t => cases t with
      | nil => exact .cons a rz
      | cons => exact .nil
end
section
variable {P : Program} {w : World} {K : PySem.W.Frag} {mg : Str → Option Value} {base : Heap}
theorem Tp.k_ever_likeliest (T : Tp K mg) : KBinds K (fD K "ever_likeliest") ["carrier"] ["carrier"] kw0 kw0 := kb0 T.d_ever_likeliest.F (by decide) fun _ _ _ _ _ _ us hl => match us, hl with | [_], _ => rfl
theorem Tp.k_accepts (T : Tp K mg) : KBinds K (fD K "accepts") ["claim", "paper"] ["claim", "paper"] kw0 kw0 := kb0 T.d_accepts.F (by decide) fun _ _ _ _ _ _ us hl => match us, hl with | [_, _], _ => rfl
theorem Tp.k_barring_pair (T : Tp K mg) : KBinds K (fD K "barring_pair") ["carrier", "number"] ["number"] kw1 kw1 := kb1 T.d_barring_pair.F (by decide) fun _ _ _ _ _ _ u us hl => match us, hl with | [_], _ => rfl
theorem ifr1 {te tb : TE} {r : List V → Hp → VK → Prop} {t u : TS} {o : R2} {D : Ends} {σ : L2.St} {H : Hp} (h : te σ H fun x H1 => r [x] H1 fun y H2 => tb σ H2 fun z H3 => o y z H3 fun b H4 => ∃ c, b = .bl c ∧ if c = true then t D σ H4 else u D σ H4) :
    tIfS (tTest (tOp o (tCB r (tCons te tNil)) tb)) t u D σ H := h
theorem lst_of {α : Type} {ys : List V} {zs : List α} {f : α → V} (l : ys.length = zs.length) (h : ∀ (i : Nat) y, ys[i]? = some y → ∃ z, zs[i]? = some z ∧ y = f z) : ys = zs.map f := by
  apply List.ext_getElem?
  intro i
  rw [List.getElem?_map]
  by_cases hi : i < ys.length
  · have e := List.getElem?_eq_getElem hi
    obtain ⟨z, ez, ey⟩ := h i _ e
    rw [e, ez, ey]
    rfl
  · rw [List.getElem?_eq_none (by omega), List.getElem?_eq_none (by omega)]
    rfl
theorem IsPL.sb {H H' : Hp} {a l : Addr} {ps : List (Nat × Nat)} (h : IsPL K H l ps) (n : l ≠ a) (s : Sb a H H') (hV : Vt H a) : IsPL K H' l ps := by
  obtain ⟨vs, e, f⟩ := h
  exact ⟨vs, s _ _ n e, f.tx (hV.tx s)⟩
theorem acc_like (R : List Q2) (k : Nat) : acc wL R k [] = decide (barL R k = []) := by
  unfold acc
  rw [if_pos rfl, barF_isNone, decide_eq_true (rfl : ([] : List Int) = [])]
  rfl
theorem paper_len (o : Option (Nat × Nat)) : (paperOf o).length ≤ 1000 := by
  cases o with
  | none => exact Nat.zero_le _
  | some p => show 2 ≤ 1000; decide
def sp_claimed (K : PySem.W.Frag) : Sp := fun vs H Q _ => ∃ (a : Addr) (c r : V) (W : List Q2) (n k : Nat), vs = [.ref a, c, r, .int (k : Int)] ∧ Vt H a ∧ IsC K H c W ∧ IsC K H r (counts n W) ∧ Car n W ∧ k ≤ n ∧ ∀ H', Sb a H H' → Vt H' a → Q (.bl true) H'
abbrev N_law_claimed_right : List Str := ["_law_vat_here", "_law_weights", "_law_counts_here", "_law_number", "_law_bars_here", "_law_seats", "_law_pair", "_law_claims", "_law_some_here", "_law_each"]
theorem sc_law_claimed_right : FnScope N_law_claimed_right ["_law_vat_here", "_law_weights", "_law_counts_here", "_law_number"] (defScope s_law_claimed_right) := ⟨rfl, rfl, rfl, by decide +kernel, rfl, by decide +kernel, by decide +kernel⟩
theorem ok_law_claimed_right (T : Tp K mg) : FnG P w K mg base 10 (fA K "_law_claimed_right") (fD K "_law_claimed_right") ["_law_vat_here", "_law_weights", "_law_counts_here", "_law_number"] (sp_claimed K) := by
  refine fnG_of T.d_law_claimed_right.F sc_law_claimed_right (fun vs H Q E h => ?_) (fun cdv B fs z H vs Q E gd hr h => ?_)
  · obtain ⟨_, _, _, _, _, _, rfl, _⟩ := h
    rfl
  · obtain ⟨a, c, r, W, n, k, rfl, hV, hC, hR, C, kn, fin⟩ := h
    have hr65 : (B.deeper (envOfC "_law_claimed_right" (defScope s_law_claimed_right) z.heap.objs.size (fA K "_law_claimed_right") cdv)).units + 65 < cLine := by
      have := hr.un
      omega
    refine ⟨_, PSs.nox ((Evl.pss_cut (ps_asg (pe_tup (pa_cons (pe_call (ok_law_barring T) (hr.mono (by decide)) (by rfl) T.d_law_barring.g T.d_law_barring.F.kp T.b_law_barring .nil pass0 (pa_cons (pv 2) (pa_cons (pv 3) pa_nil))) (pa_cons (pe_op op_sub (pe_callB call_len_seq (by rfl) T.z_len PySem.boot_len (pa_cons (pv 2) pa_nil)) pe_int) pa_nil))) (pg_tup rfl (pgs_cons (pg_name (i := 4) sc_law_claimed_right.nd rfl (Or.inr rfl)) (pgs_cons (pg_name (i := 5) sc_law_claimed_right.nd rfl (Or.inl rfl)) pgs_nil))))
      (pss_cons (ps_asg (pe_tup (pa_cons (pe_call (ok_certify_likeliest T) (hr.mono (by decide)) (by rfl) T.d_certify_likeliest.g T.d_certify_likeliest.F.kp T.b_certify_likeliest .nil pass0 (pa_cons (pv 1) (pa_cons (pv 3) pa_nil))) (pa_cons (pe_lst (pa_cons (pe_tup (pa_cons pe_str (pa_cons (pv 1) (pa_cons (pv 3) pa_nil)))) (pa_cons (pe_tup (pa_cons pe_str (pa_cons (pv 1) (pa_cons (pv 3) pa_nil)))) pa_nil))) pa_nil))) (pg_tup rfl (pgs_cons (pg_name (i := 6) sc_law_claimed_right.nd rfl (Or.inl rfl)) (pgs_cons (pg_name (i := 7) sc_law_claimed_right.nd rfl (Or.inr rfl)) pgs_nil))))
      (pss_cons (ps_if (PW.pt (pw_or (pt_not (pt_val (pe_callB call_isi (by rfl) T.z_isinstance (by decide +kernel) (pa_cons (pv 6) (pa_cons (pe_bltn (v := .ty "tuple") (by rfl) T.z_tuple (by decide +kernel) rfl) pa_nil))))) (pw_or (pt_cmpR op_ne (pe_callB call_len_seq (by rfl) T.z_len PySem.boot_len (pa_cons (pv 6) pa_nil)) pe_int (nomark _)) (pw_or1 (pt_cmpR op_notBl (pe_call (ok_accepts T) (hr.mono (by decide)) (by rfl) T.d_accepts.g T.d_accepts.F.kp T.b_accepts .nil pass0 (pa_cons (pe_ix ix_tup (pv 6) pe_int (fun _ _ => rfl)) (pa_cons (pe_ix ix_tup (pv 6) pe_int (fun _ _ => rfl)) pa_nil))) pe_bl (nomark _)))))) (pss_one (ps_ret pe_bl)) pss_nil)
      (Evl.pss_cut (ps_if (PW.pt (pw_or (pt_cmpR op_ne (pe_callB (call_reprD gd hr.units) (by rfl) T.z_repr (by decide +kernel) (pa_cons (pe_ix ix_tup (pv 6) pe_int (fun _ _ => rfl)) pa_nil)) (pe_callB (call_reprD gd hr.units) (by rfl) T.z_repr (by decide +kernel) (pa_cons (pe_ix ix_list (pv 7) (pe_ifExp (pt_cmpR (op_eqD hr.units) (pv 4) (pe_lst pa_nil) (nomark _)) pe_int pe_int) (fun _ _ => rfl)) pa_nil)) (nomark _)) (pw_or1 (PW.pt (pw_and (pt_cmpR (op_eqD hr.units) (pv 4) (pe_lst pa_nil) (nomark _)) (pw_and1 (pt_cmpR op_ne (pe_callB (call_reprD gd hr.units) (by rfl) T.z_repr (by decide +kernel) (pa_cons (pe_ix ix_tup (pv 6) pe_int (fun _ _ => rfl)) pa_nil)) pe_str (nomark _)))))))) (pss_one (ps_ret pe_bl)) pss_nil)
      (Evl.pss_cut (ps_if (PW.pt (pw_and (pt_cmpR (op_neD hr.units) (pv 4) (pe_lst pa_nil) (nomark _)) (pw_and1 (pt_cmpR (op_notInD hr65) (pe_ix ix_tup (pv 6) pe_int (fun _ _ => rfl)) (pv 4) (by rfl))))) (pss_one (ps_ret pe_bl)) pss_nil)
      (Evl.pss_cut (ps_set (i := 8) sc_law_claimed_right.nd rfl (Or.inl rfl) (pe_lst (pa_cons (pe_tup (pa_cons (pe_call (ok_law_sip T) (hr.mono (by decide)) (by rfl) T.d_law_sip.g T.d_law_sip.F.kp T.b_law_sip .nil pass0 (pa_cons (pv 0) (pa_cons (pe_op op_add (pv 5) pe_int) pa_nil))) (pa_cons (pe_call (ok_law_sip T) (hr.mono (by decide)) (by rfl) T.d_law_sip.g T.d_law_sip.F.kp T.b_law_sip .nil pass0 (pa_cons (pv 0) (pa_cons (pe_op op_add (pv 5) pe_int) pa_nil))) pa_nil))) (pa_cons (pe_tup (pa_cons pe_int (pa_cons (pv 5) pa_nil))) (pa_cons (pe_tup (pa_cons (pe_un un_neg pe_int) (pa_cons (pv 5) pa_nil))) (pa_cons (pe_tup (pa_cons pe_int (pa_cons (pe_op op_add (pv 5) pe_int) pa_nil))) (pa_cons (pe_tup pa_nil) pa_nil)))))))
      (pss_cons (ps_if (pt_cmpR op_ne (pe_callB (call_reprD gd hr.units) (by rfl) T.z_repr (by decide +kernel) (pa_cons (pe_lc (own := [("_law_each", 9)]) (g := gName 9) (tt := tYes) rfl sc_law_claimed_right.nd (pi_list (pv 8)) (blkOk_by (N := N_law_claimed_right) (sc := defScope s_law_claimed_right) (by decide +kernel)) (fun _ _ _ _ _ => pg_name (i := 9) sc_law_claimed_right.nd rfl (Or.inl rfl)) (fun _ _ _ _ _ => pts_nil) (fun _ _ _ _ _ => (pe_call (ok_accepts T) (hr.mono (by decide)) (by rfl) T.d_accepts.g T.d_accepts.F.kp T.b_accepts .nil pass0 (pa_cons (pe_ix (ix_listK (K := K) rfl) (pv 7) pe_int (fun _ _ => rfl)) (pa_cons (pv 9) pa_nil))))) pa_nil)) (pe_callB (call_reprD gd hr.units) (by rfl) T.z_repr (by decide +kernel) (pa_cons (pe_lc (own := [("_law_each", 9)]) (g := gName 9) (tt := tYes) rfl sc_law_claimed_right.nd (pi_list (pv 8)) (blkOk_by (N := N_law_claimed_right) (sc := defScope s_law_claimed_right) (by decide +kernel)) (fun _ _ _ _ _ => pg_name (i := 9) sc_law_claimed_right.nd rfl (Or.inl rfl)) (fun _ _ _ _ _ => pts_nil) (fun _ _ _ _ _ => (pe_cmpR (op_inDK (K := K) rfl hr65) (pv 9) (pv 4) (by rfl)))) pa_nil)) (nomark _)) (pss_one (ps_ret pe_bl)) pss_nil)
      (pss_one (ps_ret (pe_cmpR op_eq (pe_callB (call_reprD gd hr.units) (by rfl) T.z_repr (by decide +kernel) (pa_cons (pe_callKs (ok_accepts T) (hr.mono (by decide)) (by rfl) T.d_accepts.g T.d_accepts.F.kp T.k_accepts pass0 (pk_cons (pe_ix ix_list (pv 7) pe_int (fun _ _ => rfl)) (pk_cons (pe_tup pa_nil) pk_nil))) pa_nil)) (pe_callB (call_reprD gd hr.units) (by rfl) T.z_repr (by decide +kernel) (pa_cons (pe_cmpR (op_eqD hr.units) (pv 4) (pe_lst pa_nil) (nomark _)) pa_nil)) (nomark _)))))))))))), ?_⟩
    have n5 := C.hi
    obtain ⟨ra, rvs, rfl, rS, rF⟩ := id hR
    have el : (rvs.length : Int) - 1 = (n : Int) := by
      rw [rF.1, counts_len]
      omega
    refine ⟨fun σ2 H2 => ∃ l0, σ2 = [some (.ref a), some c, some (.ref ra), some (.int (k : Int)), some (.ref l0), some (.int (n : Int)), none, none, none, none] ∧ H l0 = none ∧ Same H H2 ∧ IsPL K H2 l0 (barL (counts n W) k), ?_, ?_⟩
    · refine ⟨_, rfl, _, rfl, .ref ra, _, n, k, rfl, hR, C.row, kn, fun H1 l0 s1 hl0 hB => ?_⟩
      refine ⟨_, rfl, ra, rvs, rfl, .inr (Same.tup s1 rS), _, _, rfl, rfl, by show 2 ≤ sizeLine; decide, fun p1 hp1 => ⟨p1, _, rfl, SqT.of upd_same, rfl, _, _, rfl, _, _, rfl, rfl, ?_⟩⟩
      refine ⟨l0, ?_, hl0, s1.trans (same_new hp1), hB.mono (same_new hp1)⟩
      rw [← el]
      rfl
    rintro σ2 H2 ⟨l0, rfl, hl0, s2, hB⟩
    have l0a : l0 ≠ a := hV.ne hl0
    refine ⟨_, rfl, _, rfl, c, W, n, k, rfl, hC.mono s2, C, kn, fun H3 pp x y s3 hpp hx hy => ?_⟩
    refine ⟨_, rfl, _, rfl, by show 3 ≤ sizeLine; decide, fun t1 h1 => ⟨_, rfl, _, rfl, by show 3 ≤ sizeLine; decide, fun t2 h2 => ⟨by show 2 ≤ sizeLine; decide, fun l1 h3 => ⟨by show 2 ≤ sizeLine; decide, fun p2 hp2 => ⟨p2, _, rfl, SqT.of upd_same, rfl, _, _, rfl, _, _, rfl, rfl, ?_⟩⟩⟩⟩⟩
    have c4 := same_new (o := .tup [.ref pp, .ref l1]) hp2
    have c3 := (same_new (o := .lst [.ref t1, .ref t2]) h3).trans c4
    have c2 := (same_new (o := .tup [.str "never likeliest", c, .int (k : Int)]) h2).trans c3
    have c1 := (same_new (o := .tup [.str "likeliest", c, .int (k : Int)]) h1).trans c2
    have et1 := c2 t1 _ upd_same
    have et2 := c3 t2 _ upd_same
    have el1 := c4 l1 _ upd_same
    have l1a : l1 ≠ a := ((hV.mono (s2.trans s3)).mono ((same_new h1).trans (same_new h2))).ne h3
    revert et1 et2 el1 c1
    clear c2 c3 c4
    generalize upd (upd (upd (upd H3 t1 (.tup [.str "likeliest", c, .int (k : Int)])) t2 (.tup [.str "never likeliest", c, .int (k : Int)])) l1 (.lst [.ref t1, .ref t2])) p2 (.tup [.ref pp, .ref l1]) = G
    intro c1 et1 et2 el1
    have sG := (s2.trans s3).trans c1
    have hVG := hV.mono sG
    have hpG := Same.tup c1 hpp
    have hxG := hx.tx (Tx.of c1)
    have hyG := hy.tx (Tx.of c1)
    have hBG := hB.mono (s3.trans c1)
    have cl1 : IsCl K G (.ref t1) wL W k := ⟨t1, c, rfl, SqT.of et1, hC.mono sG⟩
    have cl2 : IsCl K G (.ref t2) wN W k := ⟨t2, c, rfl, SqT.of et2, hC.mono sG⟩
    refine ⟨_, rfl, _, _, _, _, true, rfl, .ty "tuple", tyx_tup hpG, kit_ty (by decide +kernel), true, rfl, iteF ?_⟩
    refine ⟨_, rfl, pp, [x, y], rfl, .inr hpG, rfl, false, rfl, iteF ?_⟩
    refine ⟨_, rfl, pp, [x, y], 0, x, rfl, rfl, hpG, rfl, _, rfl, pp, [x, y], 1, y, rfl, rfl, hpG, rfl, x, y, _, W, n, k, _, rfl, hxG, hyG, paper_len _, wordOf_wd _, C, kn, fun H4 s4 => ?_⟩
    refine ⟨_, _, rfl, rfl, false, by rw [acc_own]; rfl, iteF ?_⟩
    have ow := okd_cl (k := k) (wordOf_wd (barF (counts n W) k)) C kn
    refine ⟨fun σ2 H2 => σ2 = [some (.ref a), some c, some (.ref ra), some (.int (k : Int)), some (.ref l0), some (.int (n : Int)), some (.ref pp), some (.ref l1), none, none] ∧ Same G H2, ?_, ?_⟩
    · refine ⟨_, rfl, pp, [x, y], 0, x, rfl, rfl, Same.tup s4 hpG, rfl, _, _, rfl, (dp_cl (hxG.tx (Tx.of s4))), (ow).sh, (ow).nd, Nat.le_trans (ow).dp (by decide), (ow).fits (by decide), ?_⟩
      refine ⟨_, rfl, _, rfl, Nat.zero_le _, fun q1 hq1 => ⟨plD (barL (counts n W) k), .list [], dp_pl (hBG.mono (s4.trans (same_new hq1))), .lst (SqL.of upd_same) .nil, pl_shaped _, nil_shaped, ?_⟩⟩
      have s5 := s4.trans (same_new (o := .lst []) hq1)
      by_cases hb : barL (counts n W) k = []
      · have ho : barF (counts n W) k = none := by
          rw [← barF_head, hb]
          rfl
        have hw : wordOf (barF (counts n W) k) = wL := by
          rw [ho]
          rfl
        have hp : paperOf (barF (counts n W) k) = [] := by
          rw [ho]
          rfl
        refine ⟨true, by rw [pl_eqv, decide_eq_true hb], iteT ?_⟩
        refine ⟨l1, _, 0, .ref t1, rfl, rfl, SqL.of (s5 l1 _ el1), rfl, _, _, rfl, (by rw [hw]; exact dp_cl (cl1.tx (Tx.of s5))), (ow).sh, (ow).nd, Nat.le_trans (ow).dp (by decide), (ow).fits (by decide), ?_⟩
        refine ⟨rfl, false, by simp, iteF ?_⟩
        refine ⟨_, rfl, Nat.zero_le _, fun q2 hq2 => ⟨plD (barL (counts n W) k), .list [], dp_pl (hBG.mono (s5.trans (same_new hq2))), .lst (SqL.of upd_same) .nil, pl_shaped _, nil_shaped, true, by rw [pl_eqv, decide_eq_true hb], iteT ?_⟩⟩
        have s6 := s5.trans (same_new (o := .lst []) hq2)
        have hy6 := hyG.tx (Tx.of s6)
        rw [hp] at hy6
        refine ⟨_, rfl, pp, [x, y], 1, y, rfl, rfl, Same.tup s6 hpG, rfl, _, _, rfl, (dp_paper hy6), ((OkA.tup (k := 0) .nil : OkD (.tuple []) 0 1)).sh, ((OkA.tup (k := 0) .nil : OkD (.tuple []) 0 1)).nd, Nat.le_trans ((OkA.tup (k := 0) .nil : OkD (.tuple []) 0 1)).dp (by decide), ((OkA.tup (k := 0) .nil : OkD (.tuple []) 0 1)).fits (by decide), ?_⟩
        exact ⟨rfl, false, by decide +kernel, iteF ⟨rfl, s6⟩⟩
      · have ho : ∃ p, barF (counts n W) k = some p := by
          rw [← barF_head]
          cases e : barL (counts n W) k with
          | nil => exact absurd e hb
          | cons p l => exact ⟨p, rfl⟩
        obtain ⟨p, ho⟩ := ho
        have hw : wordOf (barF (counts n W) k) = wN := by
          rw [ho]
          rfl
        refine ⟨false, by rw [pl_eqv, decide_eq_false hb], iteF ?_⟩
        refine ⟨l1, _, 1, .ref t2, rfl, rfl, SqL.of (s5 l1 _ el1), rfl, _, _, rfl, (by rw [hw]; exact dp_cl (cl2.tx (Tx.of s5))), (ow).sh, (ow).nd, Nat.le_trans (ow).dp (by decide), (ow).fits (by decide), ?_⟩
        refine ⟨rfl, false, by simp, iteF ?_⟩
        refine ⟨_, rfl, Nat.zero_le _, fun q2 hq2 => ⟨plD (barL (counts n W) k), .list [], dp_pl (hBG.mono (s5.trans (same_new hq2))), .lst (SqL.of upd_same) .nil, pl_shaped _, nil_shaped, false, by rw [pl_eqv, decide_eq_false hb], iteF ?_⟩⟩
        exact iteF ⟨rfl, s5.trans (same_new hq2)⟩
    rintro σ2 H5 ⟨rfl, s5⟩
    refine ⟨fun σ2 H2 => σ2 = [some (.ref a), some c, some (.ref ra), some (.int (k : Int)), some (.ref l0), some (.int (n : Int)), some (.ref pp), some (.ref l1), none, none] ∧ Same G H2, ?_, ?_⟩
    · refine ⟨_, rfl, Nat.zero_le _, fun q1 hq1 => ⟨plD (barL (counts n W) k), .list [], dp_pl (hBG.mono (s5.trans (same_new hq1))), .lst (SqL.of upd_same) .nil, pl_shaped _, nil_shaped, ?_⟩⟩
      have s6 := s5.trans (same_new (o := .lst []) hq1)
      by_cases hb : barL (counts n W) k = []
      · exact ⟨false, by rw [pl_eqv, decide_eq_true hb]; rfl, iteF (iteF ⟨rfl, s6⟩)⟩
      · refine ⟨true, by rw [pl_eqv, decide_eq_false hb]; rfl, iteT ?_⟩
        refine ⟨_, rfl, pp, [x, y], 1, y, rfl, rfl, Same.tup s6 hpG, rfl, _, rfl, .tuple (intsD (paperOf (barF (counts n W) k))), (barL (counts n W) k).map pairD, dp_paper (hyG.tx (Tx.of s6)), dp_pl (hBG.mono s6), paper_shaped _, pl_shaped _, false, ?_, iteF ⟨rfl, s6⟩⟩
        have ha := acc_own (counts n W) k
        have hw : wordOf (barF (counts n W) k) = wN := by
          cases e : barF (counts n W) k with
          | none => exact absurd (of_decide_eq_true (by rw [← barF_isNone, e]; rfl)) hb
          | some p => rfl
        rw [hw, acc_mem] at ha
        rw [List.any_map]
        exact congrArg (fun b => V.bl (!b)) ha
    rintro σ2 H6 ⟨rfl, s6⟩
    have eS : ∀ i : Int, i = (n : Int) + 1 → V.int i = V.int ((n + 1 : Nat) : Int) := fun i e => by rw [e]; rfl
    refine ⟨fun σ2 M => ∃ (l8 : Addr) (us : List V) (nss : List (List Int)), σ2 = [some (.ref a), some c, some (.ref ra), some (.int (k : Int)), some (.ref l0), some (.int (n : Int)), some (.ref pp), some (.ref l1), some (.ref l8), none] ∧ Sb a G M ∧ Vt M a ∧ M l8 = some (.lst us) ∧ us.length = 5 ∧ nss.length = 5 ∧ ∀ (i : Nat) u, us[i]? = some u → ∃ ns : List Int, nss[i]? = some ns ∧ IsI K M u ns ∧ ns.length ≤ 1000, ?_, ?_⟩
    · refine ⟨_, rfl, _, rfl, _, _, rfl, rfl, a, n + 1, rfl, hVG.mono s6, by omega, by omega, fun G1 r1 sb1 hV1 hr1 => ?_⟩
      refine ⟨_, rfl, _, rfl, _, _, rfl, rfl, a, n + 1, rfl, hV1, by omega, by omega, fun G2 r2 sb2 hV2 hr2 => ?_⟩
      refine ⟨by show 2 ≤ sizeLine; decide, fun t3 h13 => ⟨_, rfl, by show 2 ≤ sizeLine; decide, fun t4 h14 => ⟨_, rfl, _, rfl, by show 2 ≤ sizeLine; decide, fun t5 h15 => ⟨_, rfl, _, _, rfl, rfl, by show 2 ≤ sizeLine; decide, fun t6 h16 => ⟨Nat.zero_le _, fun t7 h17 => ⟨by show 5 ≤ sizeLine; decide, fun l8 h18 => ?_⟩⟩⟩⟩⟩⟩
      have d8 := same_new (o := .lst [.ref t3, .ref t4, .ref t5, .ref t6, .ref t7]) h18
      have d7 := (same_new (o := .tup []) h17).trans d8
      have d6 := (same_new (o := .tup [.int 0, .int ((n : Int) + 1)]) h16).trans d7
      have d5 := (same_new (o := .tup [.int (-1), .int (n : Int)]) h15).trans d6
      have d4 := (same_new (o := .tup [.int 0, .int (n : Int)]) h14).trans d5
      have d3 := (same_new (o := .tup [.int (r1 : Int), .int (r2 : Int)]) h13).trans d4
      have et3 := d4 t3 _ upd_same
      have et4 := d5 t4 _ upd_same
      have et5 := d6 t5 _ upd_same
      have et6 := d7 t6 _ upd_same
      have et7 := d8 t7 _ upd_same
      refine ⟨l8, _, [[(r1 : Int), (r2 : Int)], [0, (n : Int)], [-1, (n : Int)], [0, (n : Int) + 1], []], rfl, ((Sb.of s6).trans (sb1.trans sb2)).trans (Sb.of d3), hV2.mono d3, upd_same, rfl, rfl, ?_⟩
      intro i u e
      match i, e with
        | 0, e => exact ⟨_, rfl, (Option.some.inj e) ▸ ⟨t3, rfl, SqT.of et3⟩, by show 2 ≤ 1000; decide⟩
        | 1, e => exact ⟨_, rfl, (Option.some.inj e) ▸ ⟨t4, rfl, SqT.of et4⟩, by show 2 ≤ 1000; decide⟩
        | 2, e => exact ⟨_, rfl, (Option.some.inj e) ▸ ⟨t5, rfl, SqT.of et5⟩, by show 2 ≤ 1000; decide⟩
        | 3, e => exact ⟨_, rfl, (Option.some.inj e) ▸ ⟨t6, rfl, SqT.of et6⟩, by show 2 ≤ 1000; decide⟩
        | 4, e => exact ⟨_, rfl, (Option.some.inj e) ▸ ⟨t7, rfl, SqT.of et7⟩, Nat.zero_le _⟩
        | i + 5, e => cases e
    rintro σ2 M ⟨l8, us, nss, rfl, sM, hVM, el8, ul, nl, key⟩
    have tM := hVG.tx sM
    have cl1M := cl1.tx tM
    have cl2M := cl2.tx tM
    have el1M := sM l1 _ l1a el1
    have hBM := hBG.sb l0a sM hVG
    refine sq1 (ifr1 (lcL (fun i y _ => ∃ ns, nss[i]? = some ns ∧ y = .bl (acc wN (counts n W) k ns)) (a := l8) (xs := us) (fun R q => ⟨_, rfl, q⟩) (SqL.of el8) (by rw [ul]; decide) ?_ (fun _ _ _ _ _ p => p) ?_ ?_))
    · exact fun _ => rfl
    · intro i u ei G3 sg R kR
      obtain ⟨ns, en, hns, ln⟩ := key i u ei
      exact ⟨_, rfl, l1, _, 1, .ref t2, rfl, rfl, SqL.of (sg l1 _ el1M), rfl, _, rfl, .ref t2, u, wN, W, n, k, ns, rfl, cl2M.tx (Tx.of sg), hns.tx (Tx.of sg), ln, .inr rfl, C, kn, fun G4 s4 => kR _ G4 s4 ⟨ns, en, rfl⟩⟩
    intro D1 G3 ys hD1 sg3 eD1 len1 all1
    have ey : ys = (nss.map fun ns => acc wN (counts n W) k ns).map V.bl := by
      rw [List.map_map]
      exact lst_of (by rw [len1, nl, ul]) all1
    have ob := okd_bls (nss.map fun ns => acc wN (counts n W) k ns) (by rw [List.length_map, nl]; decide)
    refine ⟨_, _, rfl, .lst (SqL.of (by rw [eD1, ey])) (dp_bls (nss.map fun ns => acc wN (counts n W) k ns)), ob.sh, ob.nd, Nat.le_trans ob.dp (by decide), ob.fits (by decide), ?_⟩
    refine cb1 (lcL (fun i y _ => ∃ ns, nss[i]? = some ns ∧ y = .bl (acc wN (counts n W) k ns)) (a := l8) (xs := us) (fun R q => ⟨_, rfl, q⟩) (SqL.of (sg3 l8 _ el8)) (by rw [ul]; decide) ?_ (fun _ _ _ _ _ p => p) ?_ ?_)
    · exact fun _ => rfl
    · intro i u ei G4 sg R kR
      obtain ⟨ns, en, hns, ln⟩ := key i u ei
      have sg4 := sg3.trans sg
      refine ⟨_, rfl, _, rfl, .tuple (intsD ns), (barL (counts n W) k).map pairD, dp_paper (hns.tx (Tx.of sg4)), dp_pl (hBM.mono sg4), paper_shaped _, pl_shaped _, kR _ G4 (Same.refl _) ⟨ns, en, ?_⟩⟩
      rw [List.any_map, acc_mem]
      rfl
    intro D2 G4 zs hD2 sg4 eD2 len2 all2
    have ez : zs = (nss.map fun ns => acc wN (counts n W) k ns).map V.bl := by
      rw [List.map_map]
      exact lst_of (by rw [len2, nl, ul]) all2
    refine ⟨_, _, rfl, .lst (SqL.of (by rw [eD2, ez])) (dp_bls (nss.map fun ns => acc wN (counts n W) k ns)), ob.sh, ob.nd, Nat.le_trans ob.dp (by decide), ob.fits (by decide), ?_⟩
    refine ⟨rfl, false, by simp, iteF ?_⟩
    have s34 := sg3.trans sg4
    refine ⟨_, rfl, l1, _, 0, .ref t1, rfl, rfl, SqL.of (s34 l1 _ el1M), rfl, Nat.zero_le _, fun q3 hq3 => ?_⟩
    have s5 := s34.trans (same_new (o := .tup []) hq3)
    refine ⟨.ref t1, .ref q3, wL, W, n, k, [], rfl, cl1M.tx (Tx.of s5), ⟨q3, rfl, SqT.of upd_same⟩, Nat.zero_le _, .inl rfl, C, kn, fun G5 s6' => ?_⟩
    have ok1 : ∀ b : Bool, OkD (.bool b) 0 0 := fun b => okd_bool
    refine ⟨_, _, rfl, .bl _, (ok1 _).sh, (ok1 _).nd, Nat.zero_le _, (ok1 _).fits (by decide), ?_⟩
    refine ⟨_, rfl, Nat.zero_le _, fun q4 hq4 => ⟨plD (barL (counts n W) k), .list [], dp_pl (hBM.mono ((s5.trans s6').trans (same_new hq4))), .lst (SqL.of upd_same) .nil, pl_shaped _, nil_shaped, ?_⟩⟩
    refine ⟨_, _, rfl, .bl _, (ok1 _).sh, (ok1 _).nd, Nat.zero_le _, (ok1 _).fits (by decide), ?_⟩
    have e : decide (V.str (PyData.bool (acc wL (counts n W) k [])).shown = V.str (PyData.bool (PyData.eqv (plD (barL (counts n W) k)) (.list []))).shown) = true := by
      rw [acc_like, pl_eqv]
      exact decide_eq_true rfl
    have sF := (sM.trans (Sb.of ((s5.trans s6').trans (same_new (o := .lst []) hq4))))
    refine ⟨rfl, ?_⟩
    rw [e]
    exact fin _ ((Sb.of sG).trans sF) (hVM.mono ((s5.trans s6').trans (same_new hq4)))
end
end G7
end

section
set_option Elab.async false
set_option linter.all false
set_option maxRecDepth 100000
set_option maxHeartbeats 4000000
namespace G7
open PySem PySem.Spec PyProof.Rows L2
theorem op_eqDK {X : Cx} {K : PySem.W.Frag} (hk : X.K = K) (hu : X.A.units + 64 < cLine) : OpR X (compareOp .Eq) (rEqD K) := hk ▸ op_eqD hu
theorem dpall_of {K : PySem.W.Frag} {H : Hp} : ∀ {vs : List V} {ds : List PyData}, vs.length = ds.length → (∀ (i : Nat) v d, vs[i]? = some v → ds[i]? = some d → Dp K H v d) → DpAll K H vs ds
  | [], [], _, _ => .nil
  | [], _ :: _, h, _ => by cases h
  | _ :: _, [], h, _ => by cases h
  | v :: vs, d :: ds, h, f => .cons (f 0 v d rfl rfl) (dpall_of (Nat.succ.inj h) fun i u p e1 e2 => f (i + 1) u p e1 e2)
def dueD (n : Nat) (R : List Q2) : PyData := .tuple ((dueN n R).map fun (k : Nat) => .int (k : Int))
def toldD : Option (Nat × Nat) → PyData
  | none => .none
  | some p => pairD p
def toldsD (n : Nat) (R : List Q2) : PyData := .list ((List.range (n + 1)).map fun i => toldD (barF R i))
theorem dp_told {K : PySem.W.Frag} {H : Hp} {v : V} {o : Option (Nat × Nat)} (h : IsP K H v o) : Dp K H v (toldD o) := by
  cases o with
  | none =>
    cases (show v = .non from h)
    exact .non
  | some p =>
    obtain ⟨a, rfl, t⟩ := h
    exact .tup t (.cons (.int _) (.cons (.int _) .nil))
theorem dp_tolds {K : PySem.W.Frag} {H : Hp} {D : Addr} {ys : List V} {n : Nat} {R : List Q2} (e : H D = some (.lst ys)) (l : ys.length = n + 1) (h : ∀ (i : Nat) y, ys[i]? = some y → IsP K H y (barF R i)) : Dp K H (.ref D) (toldsD n R) := by
  refine .lst (SqL.of e) (dpall_of (by rw [List.length_map, List.length_range, l]) fun i v d e1 e2 => ?_)
  rw [List.getElem?_map] at e2
  obtain ⟨j, ej, rfl⟩ := Option.map_eq_some_iff.mp e2
  obtain ⟨hi, ej⟩ := List.getElem?_eq_some_iff.mp ej
  rw [List.getElem_range] at ej
  subst ej
  exact dp_told (h i v e1)
theorem dp_due {K : PySem.W.Frag} {H : Hp} {a : Addr} {n : Nat} {R : List Q2} (h : SqT K H a (dueV n R)) : Dp K H (.ref a) (dueD n R) := by
  refine .tup h (dpall_of (by rw [dueV, List.length_map, List.length_map]) fun i v d e1 e2 => ?_)
  unfold dueV at e1
  rw [List.getElem?_map] at e1 e2
  obtain ⟨j, ej, rfl⟩ := Option.map_eq_some_iff.mp e1
  rw [ej] at e2
  cases e2
  exact .int _
theorem okd_due {n : Nat} {R : List Q2} (hn : n ≤ 5) : OkD (dueD n R) 10 1 := by
  refine (OkA.mono (k := 0) (OkA.all (n := 0) fun d hd => ?_) ?_ (Nat.le_refl _)).tup
  · obtain ⟨q, hq, rfl⟩ := List.mem_map.mp hd
    have := List.mem_range.mp (List.mem_filter.mp hq).1
    exact okd_nat (Nat.lt_of_lt_of_le (show q < 6 by omega) (by decide))
  · rw [List.length_map]
    have := List.length_filter_le (fun k => (barF R k).isNone) (List.range (n + 1))
    rw [List.length_range] at this
    show (List.filter (fun k => (barF R k).isNone) (List.range (n + 1))).length * 1 ≤ 10
    omega
theorem okd_told {n i : Nat} {R : List Q2} (hR : R.length = n + 1) (hn : n ≤ 5) : OkD (toldD (barF R i)) 2 1 := by
  cases e : barF R i with
  | none => exact okd_none.mono (by decide) (Nat.le_refl _)
  | some p =>
    have m := pairs_mem (mem_barL.mp (barF_mem e)).1
    exact okd_pair ⟨Nat.lt_of_lt_of_le (show p.1 < 6 by omega) (by decide), Nat.lt_of_lt_of_le (show p.2 < 6 by omega) (by decide)⟩
theorem okd_tolds {n : Nat} {R : List Q2} (hR : R.length = n + 1) (hn : n ≤ 5) : OkD (toldsD n R) 20 2 := by
  refine (OkA.mono (k := 1) (OkA.all (n := 2) fun d hd => ?_) ?_ (Nat.le_refl _)).lst
  · obtain ⟨q, hq, rfl⟩ := List.mem_map.mp hd
    exact okd_told hR hn
  · rw [List.length_map, List.length_range]
    omega
/-! a list of lists over a range; a list from a call -/
def ItD (H1 : Hp) (D : Addr) (Pr : Addr → Nat → V → Hp → Prop) (i : Nat) (H : Hp) : Prop := Same H1 H ∧ ∃ ys, H D = some (.lst ys) ∧ ys.length = i ∧ ∀ (j : Nat) y, ys[j]? = some y → Pr D j y H
theorem lcRD {te : TE} {j : Nat} {vs : List Nat} {σ : L2.St} {H1 : Hp} {Q : VK} (Pr : Addr → Nat → V → Hp → Prop) {n : Nat} {ta : TA} (ht : ∀ R : List V → Hp → Prop, R [.int (n : Int)] H1 → ta σ H1 R) (hn : n ≤ 100000)
    (hw : ∀ x, wipe ((wipe σ vs).set j (some x)) vs = wipe σ vs) (mono : ∀ D j y H2 H3, Sb D H2 H3 → Tx H2 H3 → Pr D j y H2 → Pr D j y H3)
    (he : ∀ i, i < n → ∀ D H2, Same H1 H2 → (∃ o, H2 D = some o) → ∀ R : VK, (∀ y H3, Same H2 H3 → Pr D i y H3 → R y H3) → te ((wipe σ vs).set j (some (.int (i : Int)))) H2 R)
    (k : ∀ D H2 ys, H1 D = none → Same H1 H2 → H2 D = some (.lst ys) → ys.length = n → (∀ (i : Nat) y, ys[i]? = some y → Pr D i y H2) → Q (.ref D) H2) :
    tLc (iRng1 ta) (gName j) tYes te vs σ H1 Q := ht _ ⟨(n : Int), rfl, by omega, by omega, fun D hD => by
    rw [Int.toNat_natCast]
    exact lc_range (lo := 0) (n := n) (ItD H1 D Pr) ⟨same_new hD, [], upd_same, rfl, fun j y e => by cases j <;> cases e⟩ (fun i H hx p => by
      have e : (0 : Int) + (i : Int) = (i : Int) := Int.zero_add _
      show wipe ((wipe σ vs).set j (some (.int ((0 : Int) + (i : Int))))) vs = wipe σ vs ∧ te ((wipe σ vs).set j (some (.int ((0 : Int) + (i : Int))))) H fun y H4 => ∃ acc, H4 D = some (.lst acc) ∧ acc.length < sizeLine ∧ ItD H1 D Pr (i + 1) (upd H4 D (.lst (acc ++ [y])))
      rw [e]
      refine ⟨hw _, ?_⟩
      obtain ⟨s, ys, e1, l, all⟩ := p
      refine he i hx D H s ⟨_, e1⟩ _ fun y H4 s4 py => ?_
      have e4 := s4 D _ e1
      refine ⟨ys, e4, by rw [l]; exact Nat.lt_of_lt_of_le (Nat.lt_of_lt_of_le hx hn) (by decide), Same.mut (s.trans s4) hD, ys ++ [y], upd_same, by rw [List.length_append, l]; rfl, fun m z ez => ?_⟩
      have t : Tx H4 (upd H4 D (.lst (ys ++ [y]))) := Tx.lst e4
      have sb : Sb D H4 (upd H4 D (.lst (ys ++ [y]))) := Sb.upd
      by_cases hj : m < ys.length
      · rw [List.getElem?_append_left hj] at ez
        exact mono _ _ _ _ _ ((Sb.of s4).trans sb) ((Tx.of s4).trans t) (all m z ez)
      · rw [List.getElem?_append_right (by omega)] at ez
        have ej : m - ys.length = 0 := by
          cases q : m - ys.length with
          | zero => rfl
          | succ u =>
            rw [q] at ez
            cases ez
        rw [ej] at ez
        cases ez
        have e2 : m = i := by omega
        rw [e2]
        exact mono _ _ _ _ _ sb t py) fun H p => by
        obtain ⟨s, ys, e1, l, all⟩ := p
        exact k D H ys hD s e1 l all⟩
theorem lcLc {K : PySem.W.Frag} {te : TE} {j : Nat} {vs : List Nat} {σ : L2.St} {H1 : Hp} {Q : VK} (Pr : Nat → V → Hp → Prop) (Pre : Addr → List V → Hp → Prop) {tl : TE} (ht : ∀ R : VK, (∀ a xs H2, Same H1 H2 → Pre a xs H2 → R (.ref a) H2) → tl σ H1 R)
    (hS : ∀ a xs H2, Pre a xs H2 → SqL K H2 a xs ∧ xs.length ≤ 100000) (hw : ∀ x, wipe ((wipe σ vs).set j (some x)) vs = wipe σ vs) (mono : ∀ j y H2 H3, Tx H2 H3 → Pr j y H2 → Pr j y H3)
    (he : ∀ a xs H0, Same H1 H0 → Pre a xs H0 → ∀ i x, xs[i]? = some x → ∀ H2, Same H0 H2 → ∀ R : VK, (∀ y H3, Same H2 H3 → Pr i y H3 → R y H3) → te ((wipe σ vs).set j (some x)) H2 R)
    (k : ∀ a xs H0, Same H1 H0 → Pre a xs H0 → ∀ D H2 ys, Same H0 H2 → H2 D = some (.lst ys) → ys.length = xs.length → (∀ (i : Nat) y, ys[i]? = some y → Pr i y H2) → Q (.ref D) H2) :
    tLc (iList K tl) (gName j) tYes te vs σ H1 Q := ht _ fun a xs H0 s0 pre => ⟨a, rfl, ⟨xs, (hS a xs H0 pre).1⟩, fun D hD => lc_list (xs := xs) (Itm H0 D Pr) (itm_zero hD) (fun i H _ p => Same.seq p.1 (hS a xs H0 pre).1)
  (fun i x H hx p => ⟨hw x, itm_turn mono hD (Nat.lt_of_lt_of_le (List.getElem?_eq_some_iff.mp hx).1 (hS a xs H0 pre).2) (he a xs H0 s0 pre i x hx) p⟩) fun H p => by
    obtain ⟨s, ys, e, l, all⟩ := p
    exact k a xs H0 s0 pre D H ys s e l all⟩
section
variable {P : Program} {w : World} {K : PySem.W.Frag} {mg : Str → Option Value} {base : Heap}
def sp_right (K : PySem.W.Frag) : Sp := fun vs H Q _ => ∃ a : Addr, vs = [.ref a] ∧ Vt H a ∧ ∀ H', Sb a H H' → Q (.bl true) H'
abbrev N_law_right : List Str := ["_law_vat_here", "_law_weights", "_law_counts_here", "_law_seats", "_law_bars_here", "_law_number", "_law_due", "_law_told", "_law_each", "_law_at"]
theorem sc_law_right : FnScope N_law_right ["_law_vat_here"] (defScope s_law_right) := ⟨rfl, rfl, rfl, by decide +kernel, rfl, by decide +kernel, by decide +kernel⟩
theorem ok_law_right (T : Tp K mg) : FnG P w K mg base 11 (fA K "_law_right") (fD K "_law_right") ["_law_vat_here"] (sp_right K) := by
  refine fnG_of T.d_law_right.F sc_law_right (fun vs H Q E h => ?_) (fun cdv B fs z H vs Q E gd hr h => ?_)
  · obtain ⟨_, rfl, _⟩ := h
    rfl
  · obtain ⟨a, rfl, hV0, fin⟩ := h
    refine ⟨_, PSs.nox ((pss_cons (ps_set (i := 1) sc_law_right.nd rfl (Or.inr rfl) (pe_call (ok_law_carrier T) (hr.mono (by decide)) (by rfl) T.d_law_carrier.g T.d_law_carrier.F.kp T.b_law_carrier .nil pass0 (pa_cons (pv 0) pa_nil)))
      (Evl.pss_cut (ps_asg (pe_tup (pa_cons (pe_call (ok_law_counts T) (hr.mono (by decide)) (by rfl) T.d_law_counts.g T.d_law_counts.F.kp T.b_law_counts .nil pass0 (pa_cons (pv 1) pa_nil)) (pa_cons (pe_call (ok_law_count_seats T) (hr.mono (by decide)) (by rfl) T.d_law_count_seats.g T.d_law_count_seats.F.kp T.b_law_count_seats .nil pass0 (pa_cons (pv 1) pa_nil)) pa_nil))) (pg_tup rfl (pgs_cons (pg_name (i := 2) sc_law_right.nd rfl (Or.inr rfl)) (pgs_cons (pg_name (i := 3) sc_law_right.nd rfl (Or.inl rfl)) pgs_nil))))
      (Evl.pss_cut (ps_set (i := 4) sc_law_right.nd rfl (Or.inr rfl) (pe_lc (own := [("_law_number", 5)]) (g := gName 5) (tt := tYes) rfl sc_law_right.nd (pi_range1 (by rfl) T.z_range (pa_cons (pe_op op_add (pv 3) pe_int) pa_nil)) (blkOk_by (N := N_law_right) (sc := defScope s_law_right) (by decide +kernel)) (fun _ _ _ _ _ => pg_name (i := 5) sc_law_right.nd rfl (Or.inl rfl)) (fun _ _ _ _ _ => pts_nil) (fun _ _ _ _ _ => (pe_call (ok_law_barring T) (hr.mono (by decide)) (by rfl) T.d_law_barring.g T.d_law_barring.F.kp T.b_law_barring .nil pass0 (pa_cons (pv 2) (pa_cons (pv 5) pa_nil))))))
      (Evl.pss_cut (ps_set (i := 6) sc_law_right.nd rfl (Or.inl rfl) (pe_callTy call_tuple_of (by rfl) T.z_tuple (by decide +kernel) (pa_cons (pe_lc (own := [("_law_number", 5)]) (g := gName 5) rfl sc_law_right.nd (pi_range1 (by rfl) T.z_range (pa_cons (pe_op op_add (pv 3) pe_int) pa_nil)) (blkOk_by (N := N_law_right) (sc := defScope s_law_right) (by decide +kernel)) (fun _ _ _ _ _ => pg_name (i := 5) sc_law_right.nd rfl (Or.inl rfl)) (fun _ _ _ _ _ => (pts_one (pt_cmpR (op_eqDK (K := K) rfl hr.units) (pe_ix (ix_listK (K := K) rfl) (pv 4) (pv 5) (fun _ _ => rfl)) (pe_lst pa_nil) (nomark _)))) (fun _ _ _ _ _ => (pv 5))) pa_nil)))
      (Evl.pss_cut (ps_if (pt_cmpR op_ne (pe_callB (call_reprD gd hr.units) (by rfl) T.z_repr (by decide +kernel) (pa_cons (pe_lst (pa_cons (pe_call (ok_ever_likeliest T) (hr.mono (by decide)) (by rfl) T.d_ever_likeliest.g T.d_ever_likeliest.F.kp T.b_ever_likeliest .nil pass0 (pa_cons (pv 1) pa_nil)) (pa_cons (pe_callKs (ok_ever_likeliest T) (hr.mono (by decide)) (by rfl) T.d_ever_likeliest.g T.d_ever_likeliest.F.kp T.k_ever_likeliest pass0 (pk_cons (pv 1) pk_nil)) pa_nil))) pa_nil)) (pe_callB (call_reprD gd hr.units) (by rfl) T.z_repr (by decide +kernel) (pa_cons (pe_lst (pa_cons (pv 6) (pa_cons (pv 6) pa_nil))) pa_nil)) (nomark _)) (pss_one (ps_ret pe_bl)) pss_nil)
      (pss_cons (ps_setLc (i := 7) (own := [("_law_number", 5)]) (g := gName 5) (tt := tYes) rfl sc_law_right.nd rfl rfl (sw_true rfl rfl (by rfl) (by decide +kernel)) (pi_range1 (by rfl) T.z_range (pa_cons (pe_op op_add (pv 3) pe_int) pa_nil)) (blkOk_by (N := N_law_right) (sc := defScope s_law_right) (by decide +kernel)) (fun _ _ _ _ _ => pg_name (i := 5) sc_law_right.nd rfl (Or.inl rfl)) (fun _ _ _ _ _ => pts_nil) (fun _ _ _ _ _ => (pe_call (ok_barring_pair T) (hr.mono (by decide)) (by rfl) T.d_barring_pair.g T.d_barring_pair.F.kp T.b_barring_pair .nil pass0 (pa_cons (pv 1) (pa_cons (pv 5) pa_nil)))))
      (pss_cons (ps_if (pt_cmpR op_ne (pe_callB (call_reprD gd hr.units) (by rfl) T.z_repr (by decide +kernel) (pa_cons (pv 7) pa_nil)) (pe_callB (call_reprD gd hr.units) (by rfl) T.z_repr (by decide +kernel) (pa_cons (pe_lc (own := [("_law_each", 8)]) (g := gName 8) (tt := tYes) rfl sc_law_right.nd (pi_list (pv 4)) (blkOk_by (N := N_law_right) (sc := defScope s_law_right) (by decide +kernel)) (fun _ _ _ _ _ => pg_name (i := 8) sc_law_right.nd rfl (Or.inl rfl)) (fun _ _ _ _ _ => pts_nil) (fun _ _ _ _ _ => (pe_ifExp (pt_cmpR (op_neDK (K := K) rfl hr.units) (pv 8) (pe_lst pa_nil) (nomark _)) (pe_ix (ix_listK (K := K) rfl) (pv 8) pe_int (fun _ _ => rfl)) pe_non))) pa_nil)) (nomark _)) (pss_one (ps_ret pe_bl)) pss_nil)
      (pss_cons (ps_set (i := 9) sc_law_right.nd rfl (Or.inl rfl) (pe_call (ok_law_sip T) (hr.mono (by decide)) (by rfl) T.d_law_sip.g T.d_law_sip.F.kp T.b_law_sip .nil pass0 (pa_cons (pv 0) (pa_cons (pe_op op_add (pv 3) pe_int) pa_nil))))
      (pss_cons (ps_if (pt_cmpR op_ne (pe_callB (call_reprD gd hr.units) (by rfl) T.z_repr (by decide +kernel) (pa_cons (pe_callK (ok_barring_pair T) (hr.mono (by decide)) (by rfl) T.d_barring_pair.g T.d_barring_pair.F.kp T.k_barring_pair pass0 (pa_cons (pv 1) pa_nil) (pk_cons (pv 9) pk_nil)) pa_nil)) (pe_callB (call_reprD gd hr.units) (by rfl) T.z_repr (by decide +kernel) (pa_cons (pe_ix ix_list (pv 7) (pv 9) (fun _ _ => rfl)) pa_nil)) (nomark _)) (pss_one (ps_ret pe_bl)) pss_nil)
      (pss_one (ps_ret (pe_callG (ok_law_claimed_right T) gd (hr.mono (by decide)) (by rfl) T.d_law_claimed_right.g T.d_law_claimed_right.F.kp T.b_law_claimed_right pass0 (pa_cons (pv 0) (pa_cons (pv 1) (pa_cons (pv 2) (pa_cons (pv 9) pa_nil))))))))))))))))), ?_⟩
    refine ⟨_, rfl, a, rfl, hV0, fun H1 c W n sb1 hV1 hC1 C => ?_⟩
    have n5 := C.hi
    have rl : (counts n W).length = n + 1 := counts_len n W
    refine ⟨fun σ2 H2 => ∃ r, σ2 = [some (.ref a), some c, some r, some (.int (n : Int)), none, none, none, none, none, none] ∧ Same H1 H2 ∧ IsC K H2 r (counts n W), ?_, ?_⟩
    · refine ⟨_, rfl, c, W, n, rfl, hC1, C, fun H2 r s2 hR => ⟨_, rfl, c, W, n, rfl, hC1.mono s2, C, fun H3 s3 => ⟨by show 2 ≤ sizeLine; decide, fun p hp => ⟨p, _, rfl, SqT.of upd_same, rfl, _, _, rfl, _, _, rfl, rfl, ?_⟩⟩⟩⟩
      exact ⟨r, rfl, (s2.trans s3).trans (same_new hp), hR.mono (s3.trans (same_new hp))⟩
    rintro σ2 H2 ⟨r, rfl, s2, hR⟩
    refine ⟨fun σ2 H3 => ∃ D ys, σ2 = [some (.ref a), some c, some r, some (.int (n : Int)), some (.ref D), none, none, none, none, none] ∧ Same H2 H3 ∧ H3 D = some (.lst ys) ∧ ys.length = n + 1 ∧ ∀ (i : Nat) y, ys[i]? = some y → ∃ l, y = .ref l ∧ IsPL K H3 l (barL (counts n W) i), ?_, ?_⟩
    · refine as1 (lcRD (fun D i y H' => ∃ l, y = .ref l ∧ l ≠ D ∧ IsPL K H' l (barL (counts n W) i)) (n := n + 1) ?_ (by omega) ?_ ?_ ?_ ?_)
      · intro R kR
        exact ⟨_, rfl, _, _, rfl, rfl, kR⟩
      · exact fun _ => rfl
      · rintro D j y H3 H4 sb t ⟨l, rfl, ne, vs, e, f⟩
        exact ⟨l, rfl, ne, vs, sb l _ ne e, f.tx t⟩
      · intro i hi D H3 s3 hD R kR
        obtain ⟨o, hD⟩ := hD
        refine ⟨_, rfl, _, rfl, r, _, n, i, rfl, hR.mono s3, C.row, by omega, fun H4 l s4 hl hB => kR _ H4 s4 ⟨l, rfl, fun e => ?_, hB⟩⟩
        rw [e, hD] at hl
        cases hl
      · intro D H3 ys hD s3 eD len all
        refine ⟨D, ys, rfl, s3, eD, len, fun i y e => ?_⟩
        obtain ⟨l, e1, _, hB⟩ := all i y e
        exact ⟨l, e1, hB⟩
    rintro σ2 H3 ⟨D, ys, rfl, s3, eD, len, bars⟩
    have s03 : Same H1 H3 := s2.trans s3
    have hCH := hC1.mono s03
    have hRH := hR.mono s3
    have hVH := hV1.mono s03
    have bget : ∀ i, i < n + 1 → ∃ l, ys[i]? = some (V.ref l) ∧ IsPL K H3 l (barL (counts n W) i) := fun i hi => by
      have e := List.getElem?_eq_getElem (show i < ys.length by omega)
      obtain ⟨l, el, hB⟩ := bars i _ e
      exact ⟨l, by rw [e, el], hB⟩
    refine ⟨fun σ2 H4 => ∃ p, σ2 = [some (.ref a), some c, some r, some (.int (n : Int)), some (.ref D), none, some (.ref p), none, none, none] ∧ Same H3 H4 ∧ SqT K H4 p (dueV n (counts n W)), ?_, ?_⟩
    · refine as1 (cb1 (lcRf (n := n + 1) (fun k => (barF (counts n W) k).isNone) (fun k => .int (k : Int)) ?_ (by omega) ?_ ?_ ?_ ?_))
      · intro H4 s4 R kR
        exact ⟨_, rfl, _, _, rfl, rfl, kR⟩
      · exact fun _ => rfl
      · intro i hi H4 s4 R kR
        obtain ⟨l, el, hB⟩ := bget i hi
        exact ⟨_, rfl, _, rfl, D, ys, i, .ref l, rfl, rfl, SqL.of (s4 D _ eD), atI_nat el, Nat.zero_le _, fun q hq => ⟨plD (barL (counts n W) i), .list [], dp_pl (hB.mono (s4.trans (same_new hq))), .lst (SqL.of upd_same) .nil, pl_shaped _, nil_shaped, (barF (counts n W) i).isNone, by rw [pl_eqv, barF_isNone], kR _ (same_new hq)⟩⟩
      · intro i hi hf H4 s4 R kR
        exact ⟨_, rfl, kR H4 (Same.refl _)⟩
      intro D2 H4 hD2 s4 eD2
      refine ⟨D2, _, rfl, .inl ⟨SqL.of eD2, fun p hp => ?_⟩⟩
      have hdue : SqT K (upd H4 p (.tup (((List.range (n + 1)).filter fun k => (barF (counts n W) k).isNone).map fun (k : Nat) => V.int (k : Int)))) p (dueV n (counts n W)) := SqT.of upd_same
      exact ⟨p, rfl, s4.trans (same_new hp), hdue⟩
    rintro σ2 H4 ⟨p, rfl, s5, hdue⟩
    refine ⟨fun σ2 H2 => σ2 = [some (.ref a), some c, some r, some (.int (n : Int)), some (.ref D), none, some (.ref p), none, none, none] ∧ Same H3 H2, ?_, ?_⟩
    · refine ⟨_, rfl, c, W, n, rfl, hCH.mono s5, C, fun H5 a1 s6 ha1 => ⟨_, rfl, c, W, n, rfl, hCH.mono (s5.trans s6), C, fun H6 a2 s7 ha2 => ⟨by show 2 ≤ sizeLine; decide, fun l1 hl1 => ?_⟩⟩⟩
      have od : OkD (.list [dueD n (counts n W), dueD n (counts n W)]) 40 2 := ((OkA.cons (okd_due n5) (OkA.cons (okd_due n5) .nil)).mono (by decide) (Nat.le_refl _)).lst
      have s8 := s7.trans (same_new (o := .lst [.ref a1, .ref a2]) hl1)
      refine ⟨_, _, rfl, .lst (SqL.of upd_same) (.cons (dp_due (Same.tup s8 ha1)) (.cons (dp_due (Same.tup (same_new hl1) ha2)) .nil)), od.sh, od.nd, Nat.le_trans od.dp (by decide), od.fits (by decide), ?_⟩
      refine ⟨_, rfl, _, rfl, by show 2 ≤ sizeLine; decide, fun l2 hl2 => ?_⟩
      have s9 := (s6.trans s8).trans (same_new (o := .lst [.ref p, .ref p]) hl2)
      have hdue2 := dp_due (Same.tup s9 hdue)
      refine ⟨_, _, rfl, .lst (SqL.of upd_same) (.cons hdue2 (.cons hdue2 .nil)), od.sh, od.nd, Nat.le_trans od.dp (by decide), od.fits (by decide), ?_⟩
      exact ⟨rfl, false, by simp, iteF ⟨rfl, s5.trans s9⟩⟩
    rintro σ2 H4 ⟨rfl, s4⟩
    refine sq1 (as1 (lcR (fun i y H' => IsP K H' y (barF (counts n W) i)) (n := n + 1) ?_ (by omega) ?_ ?_ ?_ ?_))
    · intro R kR
      exact ⟨_, rfl, _, _, rfl, rfl, kR⟩
    · exact fun _ => rfl
    · intro j y H5 H6 t h
      exact h.tx t
    · intro i hi H5 s5 R kR
      exact ⟨_, rfl, _, rfl, c, W, n, i, rfl, hCH.mono (s4.trans s5), C, by omega, fun H6 v s6 hv => kR v H6 s6 hv⟩
    intro Tl H5 ts hTl s5 eT tl all
    have ot := okd_tolds rl n5
    have s45 := s4.trans s5
    refine ⟨_, rfl, _, _, rfl, dp_tolds eT tl all, ot.sh, ot.nd, Nat.le_trans ot.dp (by decide), ot.fits (by decide), ?_⟩
    refine cb1 (lcL (fun i y H' => IsP K H' y (barF (counts n W) i)) (a := D) (xs := ys) (fun R q => ⟨_, rfl, q⟩) (SqL.of (s45 D _ eD)) (by rw [len]; omega) ?_ ?_ ?_ ?_)
    · exact fun _ => rfl
    · intro j y H6 H7 t h
      exact h.tx t
    · intro i u ei H6 s6 R kR
      obtain ⟨l, rfl, hB⟩ := bars i u ei
      have hB6 := hB.mono (s45.trans s6)
      refine ⟨_, rfl, Nat.zero_le _, fun q hq => ⟨plD (barL (counts n W) i), .list [], dp_pl (hB6.mono (same_new hq)), .lst (SqL.of upd_same) .nil, pl_shaped _, nil_shaped, ?_⟩⟩
      have sq := same_new (o := .lst []) hq
      have hc : barL (counts n W) i = [] ∨ ∃ p tl, barL (counts n W) i = p :: tl := by
        cases barL (counts n W) i with
        | nil => exact .inl rfl
        | cons p tl => exact .inr ⟨p, tl, rfl⟩
      rcases hc with hb | ⟨p, tl, hb⟩
      · refine ⟨false, by rw [pl_eqv, hb]; rfl, iteF (kR .non _ sq ?_)⟩
        have e : barF (counts n W) i = none := by
          rw [← barF_head, hb]
          rfl
        rw [e]
        rfl
      · refine ⟨true, by rw [pl_eqv, hb]; rfl, iteT ?_⟩
        obtain ⟨vs, ev, fv⟩ := hB6.mono sq
        obtain ⟨v, e0, pv⟩ := fv.2 0 p (by rw [hb]; rfl)
        refine ⟨_, rfl, l, vs, 0, v, rfl, rfl, SqL.of ev, atI_nat (j := 0) e0, kR v _ sq ?_⟩
        have e : barF (counts n W) i = some p := by
          rw [← barF_head, hb]
          rfl
        rw [e]
        exact pv
    intro D3 H6 zs hD3 s6 eD3 len3 all3
    refine ⟨_, _, rfl, dp_tolds eD3 (by rw [len3, len]) all3, ot.sh, ot.nd, Nat.le_trans ot.dp (by decide), ot.fits (by decide), ?_⟩
    refine ⟨rfl, false, by simp, iteF ?_⟩
    have s46 := s45.trans s6
    have hV6 := hVH.mono s46
    refine ⟨_, rfl, _, rfl, _, _, rfl, rfl, a, n + 1, rfl, hV6, by omega, by omega, fun G1 rr sb hVG hrr => ?_⟩
    have t1 := hV6.tx sb
    have oo := okd_told (i := rr) rl n5
    have neT : Tl ≠ a := (hVH.mono s4).ne hTl
    have eT6 := s6 Tl _ eT
    refine ⟨_, rfl, _, rfl, c, W, n, rr, rfl, (hCH.mono s46).tx t1, C, by omega, fun G2 v s8 hv => ⟨_, _, rfl, dp_told hv, oo.sh, oo.nd, Nat.le_trans oo.dp (by decide), oo.fits (by decide), ?_⟩⟩
    have ey := List.getElem?_eq_getElem (show rr < ts.length by omega)
    have py := ((all rr _ ey).tx (Tx.of s6)).tx (t1.trans (Tx.of s8))
    refine ⟨_, rfl, _, rfl, Tl, ts, rr, ts[rr], rfl, rfl, SqL.of (s8 Tl _ (sb Tl _ neT eT6)), atI_nat ey, _, _, rfl, dp_told py, oo.sh, oo.nd, Nat.le_trans oo.dp (by decide), oo.fits (by decide), ?_⟩
    refine ⟨rfl, false, by simp, iteF ?_⟩
    have tt := t1.trans (Tx.of s8)
    exact ⟨_, rfl, _, rfl, _, rfl, _, rfl, a, c, r, W, n, rr, rfl, hVG.mono s8, (hCH.mono s46).tx tt, (hRH.mono s46).tx tt, C, by omega, fun H' s' _ => fin H' ((((sb1.trans (Sb.of s03)).trans (Sb.of s46)).trans sb).trans ((Sb.of s8).trans s'))⟩
def spLaw (K : PySem.W.Frag) : Sp := fun vs H Q _ => ∃ (a : Addr) (ns : List Int), vs = [.ref a] ∧ SqL K H a (ns.map V.int) ∧ ns.length ≤ 63 ∧ ∀ H', Q (.bl true) H'
abbrev N_law : List Str := ["_law_script", "_law_lap"]
theorem sc_law : FnScope N_law ["_law_script"] (defScope s_law) := ⟨rfl, rfl, rfl, by decide +kernel, rfl, by decide +kernel, by decide +kernel⟩
theorem ok_law (T : Tp K mg) : FnG P w K mg base 12 (fA K "law") (fD K "law") ["_law_script"] (spLaw K) := by
  refine fnG_of T.d_law.F sc_law (fun vs H Q E h => ?_) (fun cdv B fs z H vs Q E gd hr h => ?_)
  · obtain ⟨_, _, rfl, _⟩ := h
    rfl
  · obtain ⟨a, ns, rfl, hS, hl, fin⟩ := h
    refine ⟨_, PSs.nox ((pss_one (ps_ret (pe_callB (cr_all rfl) (by rfl) T.z_all (by decide +kernel) (pa_cons (pe_lc (own := [("_law_lap", 1)]) (g := gName 1) (tt := tYes) rfl sc_law.nd (pi_list (pe_call (ok_law_laps T) (hr.mono (by decide)) (by rfl) T.d_law_laps.g T.d_law_laps.F.kp T.b_law_laps .nil pass0 (pa_cons (pv 0) (pa_cons pe_int pa_nil)))) (blkOk_by (N := N_law) (sc := defScope s_law) (by decide +kernel)) (fun _ _ _ _ _ => pg_name (i := 1) sc_law.nd rfl (Or.inl rfl)) (fun _ _ _ _ _ => pts_nil) (fun _ _ _ _ _ => (pe_callG (ok_law_right T) gd (hr.mono (by decide)) (by rfl) T.d_law_right.g T.d_law_right.F.kp T.b_law_right pass0 (pa_cons (pe_call (ok_law_vat T) (hr.mono (by decide)) (by rfl) T.d_law_vat.g T.d_law_vat.F.kp T.b_law_vat .nil pass0 (pa_cons (pv 0) (pa_cons (pv 1) pa_nil))) pa_nil)))) pa_nil))))), ?_⟩
    refine rt1 (cb1 (lcLc (fun _ y _ => y = .bl true) (fun l xs H2 => H2 l = some (.lst xs) ∧ ∃ m, m ≤ 4 ∧ xs = upTo m) ?_ ?_ ?_ ?_ ?_ ?_))
    · intro R kR
      exact ⟨_, rfl, a, _, rfl, hS, by rw [List.length_map]; exact hl, fun H' l m s hl0 m4 e => kR l _ H' s ⟨e, m, m4, rfl⟩⟩
    · rintro l xs H2 ⟨e, m, m4, rfl⟩
      exact ⟨SqL.of e, by rw [List.length_map, List.length_range]; omega⟩
    · exact fun _ => rfl
    · intro _ _ _ _ _ p
      exact p
    · rintro l xs H0 s0 ⟨_, m, m4, rfl⟩ i x ex H2 s2 R kR
      obtain ⟨hi, rfl⟩ := upTo_at ex
      exact ⟨_, rfl, _, rfl, a, ns, i, rfl, Same.seq (s0.trans s2) hS, hl, by omega, fun H3 v s3 hv hV => ⟨v, rfl, hV, fun H4 sb => kR (.bl true) H4 (fun b o e => sb b o (ne_of_none e hv) (s3 b o e)) rfl⟩⟩
    · intro l xs H0 s0 pre D H2 ys s2 eD len all
      have ey : ys = (List.replicate xs.length true).map V.bl := by
        rw [List.map_replicate]
        exact all_same len all
      refine ⟨D, List.replicate xs.length true, rfl, SqL.of (by rw [eD, ey]), ?_⟩
      have e : (List.replicate xs.length true).all id = true := by simp
      rw [e]
      exact fin H2
end
end G7
end

section
set_option Elab.async false
set_option linter.all false
set_option maxRecDepth 100000
set_option maxHeartbeats 4000000
/-! from the law's promise to the call of the law's def -/
namespace G7
open PySem PySem.Spec PyProof.Rows L2
section
variable {P : Program} {w : World} {K : PySem.W.Frag} {mg mb : Str → Option Value} {k : Nat} {fa a : Addr} {fd : FuncData} {x : Str} {sp : Sp} {S : Shared} {vs : List Value} {ns : List Int}
/-- the call's end -/
def Done (S : Shared) (r : Except Value Flow) (z : Shared) : Prop := r = .ok (.ret (.bool true)) ∧ OldK S.heap z.heap ∧ z.os = S.os ∧ AllBare z.gens
theorem start_at (inK : K.In S.heap) (gl : S.heap.Ns mainGlobals mg) (bl : S.heap.Ns builtinsNs mb) (bt : ∀ y : Str, y ≠ "__name__" → mb y = bootBuiltins y) (nl : S.heap.NoLimit) (ng : S.gens = #[])
    (obj : S.heap.get? a = some { cls := .type "list", data := .seq vs.toArray }) (room : Room k callerA) (F : ∀ b : Heap, K.In b → b.Ns mainGlobals mg → FnG P w K mg b k fa fd [x] sp)
    (bnd : ∀ (z : Shared) (u : Value), BindsTo z fd ⟨[u], []⟩ [(x, u)]) (T : Hp) (only : ∀ b u, T b = some u → b = a ∧ ∃ o xs, u = .frz o (.lst xs)) (ka : T a ≠ none → K.lookup a = none) (fits : HOk P w T S.heap)
    (asked : sp [.ref a] T (fun v _ => v = .bl true) fun _ _ _ => False) : codeAny (model P w) callerA (.call (.ref fa) ⟨[.ref a], []⟩) (Done S) S := by
  have kin : K.In (hidT S.heap T) := fun b o e => by
    refine hidT_get (inK b o e) ?_
    cases q : T b with
    | none => rfl
    | some u =>
      obtain ⟨rfl, _⟩ := only b u q
      have z := ka (by rw [q]; exact fun y => nomatch y)
      rw [z] at e
      cases e
  have names : ∀ {b : Addr} {m : Str → Option Value}, S.heap.Ns b m → (hidT S.heap T).Ns b m := by
    rintro b m ⟨o, es, ep, e, d, r⟩
    refine ⟨o, es, ep, hidT_get e ?_, d, r⟩
    cases q : T b with
    | none => rfl
    | some u =>
      obtain ⟨rfl, _⟩ := only b u q
      rw [obj] at e
      cases e
      cases (show Data.seq vs.toArray _ = Data.dict es ep from d)
  have mod : Mod K mg (hidT S.heap T) := by
    obtain ⟨ml, nl1, nl2⟩ := nl
    exact ⟨kin, names gl, ⟨mb, names bl, bt⟩, ⟨ml, names nl1, nl2⟩⟩
  have env : Env0 P w K mg (hidT S.heap T) callerA [] S T :=
    ⟨rfl, mod, fun _ _ e => of_hidT e, Nat.le_of_eq (hidT_size _ _), trivial, fun b m => absurd (show b ∈ ([] : List Addr) from m) (by simp), fits, .of_eq ng⟩
  refine codeAny_mono ((F _ kin (names gl)).goes callerA [] S T ⟨[.ref a], []⟩ [.ref a] [.ref a] _ _ rfl room env (bnd S (.ref a)) (.cons rfl .nil) asked) fun r z got => ?_
  match r, got with
  | .error e, got => exact False.elim got
  | .ok .next, got => exact False.elim got
  | .ok .brk, got => exact False.elim got
  | .ok .cont, got => exact False.elim got
  | .ok (.ret u), got =>
    obtain ⟨v, T2, os, bare, un, fits2, rv, q⟩ := got
    cases (show v = .bl true from q)
    cases (show u = Value.bool true from rv)
    refine ⟨rfl, OldK.of_keep fun b o e => ?_, os, bare⟩
    cases q2 : T b with
    | none => exact un.keep b o e q2 (fun m => absurd (show b ∈ ([] : List Addr) from m) (by simp)) (by simp)
    | some u =>
      obtain ⟨_, ob, xs, rfl⟩ := only b u q2
      obtain ⟨f1, _⟩ := fits b _ q2
      obtain ⟨f2, _⟩ := fits2 b _ (un.frzs b ob _ q2)
      rw [e] at f1
      cases f1
      exact f2
theorem start_law (inK : K.In S.heap) (gl : S.heap.Ns mainGlobals mg) (bl : S.heap.Ns builtinsNs mb) (bt : ∀ y : Str, y ≠ "__name__" → mb y = bootBuiltins y) (nl : S.heap.NoLimit) (ng : S.gens = #[])
    (obj : S.heap.get? a = some { cls := .type "list", data := .seq vs.toArray }) (hin : IntsAre vs ns) (short : ns.length ≤ sizeLine) (room : Room k callerA) (F : ∀ b : Heap, K.In b → b.Ns mainGlobals mg → FnG P w K mg b k fa fd [x] sp)
    (bnd : ∀ (z : Shared) (u : Value), BindsTo z fd ⟨[u], []⟩ [(x, u)]) (asked : ∀ T : Hp, SqL K T a (ns.map V.int) → sp [.ref a] T (fun v _ => v = .bl true) fun _ _ _ => False) :
    codeAny (model P w) callerA (.call (.ref fa) ⟨[.ref a], []⟩) (Done S) S := by
  have vals := vals_ints hin
  have same := hin.length
  cases hk : K.lookup a with
  | some o =>
    have e := inK a o hk
    rw [obj] at e
    cases e
    refine start_at inK gl bl bt nl ng obj room F bnd (fun _ => none) (fun b u z => by cases z) (fun z => absurd rfl z) (fun b u z => by cases z) (asked _ ?_)
    exact .inr ⟨_, vs.toArray, _, hk, rfl, rfl, rfl, by rw [List.size_toArray, same]; exact short, by simpa using vals⟩
  | none =>
    refine start_at inK gl bl bt nl ng obj room F bnd (fun b => if b = a then some (.frz { cls := .type "list", data := .seq vs.toArray } (.lst (ns.map V.int))) else none) (fun b u z => ?_) (fun _ => hk) (fun b u z => ?_) (asked _ ?_)
    · by_cases hb : b = a
      · have z2 := (if_pos hb).symm.trans z
        cases z2
        exact ⟨hb, _, _, rfl⟩
      · cases (if_neg hb).symm.trans z
    · by_cases hb : b = a
      · have z2 := (if_pos hb).symm.trans z
        cases z2
        subst hb
        exact ⟨obj, by rw [List.length_map]; exact short, vs, _, vals, obj⟩
      · cases (if_neg hb).symm.trans z
    · exact .inl (.inr ⟨_, if_pos rfl⟩)
end
end G7
end

section
set_option Elab.async false
set_option linter.all false
set_option maxRecDepth 100000
set_option maxHeartbeats 4000000
open PySem PySem.W PySem.Calls PyProof.Rows
theorem PySem.Challenge.cw_guestseats_k12_whole_ever_likeliest_numb_holds : PySem.Challenge.rw_guestseats_k12_whole_ever_likeliest_numb.Holds := by
  w_on; o_law
  refine HandSHeadRun.head_imp (r := OpenLaw.row PySem.Challenge.rw_guestseats_k12_whole_ever_likeliest_numb) (q := G7.qv) (H := G7.hk) (ob := G7.ob) (M := 12000) (loose := G7.loose) (d := HandSHeadRun.topDef (OpenLaw.row PySem.Challenge.rw_guestseats_k12_whole_ever_likeliest_numb).prog 195) (kwd := []) G7.ob_eq G7.run
    (by kernel_rfl) (by kernel_rfl) (by kernel_rfl) (by rfl) (by first | assumption | decide +kernel) (by decide +kernel) ⟨rfl, rfl, rfl, rfl, rfl, by decide +kernel⟩ ?hw ?hc
  case hw => w_witness2
  case hc =>
    refine Att.attach_call (l := PySem.Challenge.rw_guestseats_k12_whole_ever_likeliest_numb) (n := 63) rfl (by kernel_rfl) fun w s₀ s₁ mg mb fa o pm cd doc a vs ns Gr Y ho hd hcd hmg0 obj hin short ng => ?_
    obtain ⟨K, inK, c⟩ := Y
    have T : G7.Tp K mg := ⟨s₁.heap, inK, Gr.T.g, c⟩
    have e : (HandSHeadRun.topDef (OpenLaw.row PySem.Challenge.rw_guestseats_k12_whole_ever_likeliest_numb).prog 195).name = ("law" : PySem.Str) := by kernel_rfl
    rw [e] at hmg0
    cases (T.d_law.g.symm.trans hmg0)
    exact G7.start_law inK Gr.T.g Gr.T.b Gr.T.builtins Gr.T.nolimit ng obj hin (Nat.le_trans short (by decide)) (k := 12) ⟨rfl, by decide, by decide⟩
      (fun _ _ _ => G7.ok_law T) (fun s v => (L2.FunD.bindsA (ps := ["_law_script"]) T.d_law.F fun _ _ _ _ _ _ us hl => match us, hl with | [_], _ => rfl) s [v] rfl)
      fun H hS => ⟨a, ns, rfl, hS, short, fun _ => rfl⟩
end
