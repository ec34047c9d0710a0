import PyProof.Rows.All
import Wide.All
import OpenK.AllK
import Wide.FinOn
import KE.KStateDown
import HandS.ForMost
import HandS.ForExc
import HandS.Defaults
import HandS.Lambda
import HandS.Head0
import HandS.Head1
import HandS.Head2
import HandS.HeadEnd
import HandS.HeadHook1
import HandS.HeadHook2
import HandS.HeadHook3
import HandS.HeadHook4
import HandS.HeadWalk
import HandS.Wide
import HandS.ExcField
import HandS.ExcIs
import KE.KExcIs
import KE.KExcSuper
import HandS.ExcInit
import HandS.HeadNt
import PySem.Challenge.RW_multipliedout_k95_texts_there_and_back
import HandS.TupAny
import HandS.TupMul
import HandS.Flow
import HandS.FStr
import HandS.Style
import HandS.IsInst
import HandS.RaiseMore
import HandS.Text
import HandS.List
import HandS.Comp
import HandS.Iter
import HandS.NoneIn
import HandS.WordsExc
set_option Elab.async false
set_option linter.all false
set_option maxRecDepth 100000
set_option maxHeartbeats 4000000
namespace Z
open PySem PySem.Spec PyProof.Rows L2
open He (ga ma Fa DefD Defn)
/-! ## what a law's head run looks for (ahead of all else: the run takes much memory) -/
def fld (c : Str) : Str :=
  if c = "InvalidMatrix" then "matrix" else if c = "InvalidVector" then "vector" else if c = "InvalidNumber" then "number" else if c = "InvalidQuestion" then "question"
  else if c = "InvalidLine" then "place" else if c = "InvalidText" then "place" else "what"
def excL : List Str := ["InvalidMatrix", "InvalidVector", "InvalidNumber", "InvalidQuestion", "InvalidLine", "InvalidText", "Unfit", "Undefined", "TooMany", "NothingDone"]
theorem ands {a b : Bool} (h : (a && b) = true) : a = true ∧ b = true := Bool.and_eq_true_iff.mp h
def oexB (K : PySem.W.Frag) (C : Addr) : Bool := (match K.lookup C with
  | some ⟨.type ty, _, .cls cd, sl⟩ => decide (ty = "type") && (match cd.mro, sl.toList with
    | .ref C' :: bm, [_, _, _, _, some (.builtin n), _] => decide (C' = C) && (decide (n = "ValueError.__new__") && (!cd.hasDel && (cd.hasDict && PySem.HandSPX.refsVE bm)))
    | _, _ => false)
  | _ => false) && (decide (PySem.W.findIn K (.ref C) "__setattr__" = some (some (.builtin "object.__setattr__"))) && (decide (PySem.W.subIn K (.ref C) (.type "BaseException") = some true) &&
    (decide (PySem.W.typeIn K (.ref C) = some (.type "type")) && PySem.W.keepIn K (.ref C))))
def bodyB (x : Str) : List Stmt → Bool
  | [.Expr (.Call (.Attribute (.Call (.Name a1 _) [] [] _) a2 pa) [.Name a3 _] [] p3) _, .Assign [.Attribute (.Name a4 _) a5 _] (.Name a6 _) _] =>
    decide (a1 = "super") && (decide (a2 = "__init__") && (decide (a3 = x) && (decide (a4 = "self") && (decide (a5 = x) && (decide (a6 = x) && (pa.endLine == p3.line))))))
  | _ => false
def argsIB (x : Str) : Arguments → Bool
  | ⟨[], [⟨a, _, _⟩, ⟨b, _, _⟩], none, [], [], none, []⟩ => decide (a = "self") && decide (b = x)
  | _ => false
def scopeIB (x : Str) (sc : Scope) : Bool := decide (sc.kind = .function) && (!sc.isCoroutine && (!sc.isGenerator && (sc.names.all (fun y => !decide (y.2 = .cell)) && (decide (sc.names.lookup ("self" : Str) = some .local) && (decide (sc.names.lookup x = some .local) &&
  (decide (sc.names.lookup ("super" : Str) = some .globalImplicit) && (decide (sc.names.lookup ("__class__" : Str) = some .free) && sc.names.all (fun y => !decide (y.2 = .free) || decide (y.1 = "__class__")))))))))
def initFdB (P : Program) (K : PySem.W.Frag) (C : Addr) (x : Str) : FuncData → Bool
  | ⟨_, qual, params, .stmts body, scope, gl, [(cn, cc)], .none, _, _, _, _, .ref cda, _, bl⟩ => decide (gl = mainGlobals) && (decide (bl = builtinsNs) && (decide (cn = "__class__") && (PySem.W.codeIn K (.ref cda) qual && (bodyB x body && (argsIB x params && (scopeIB x scope &&
    ((match K.lookup cda with
      | some ⟨_, _, .fields vs, _⟩ => (match (vs[2]? : Option Value) with
        | some (.str file _) => (P.main.file : Str) == file
        | _ => false)
      | _ => false) && (match K.lookup cc with
      | some ⟨_, _, .cell (some (.ref D)), _⟩ => decide (D = C)
      | _ => false))))))))
  | _ => false
def initB (P : Program) (K : PySem.W.Frag) (C fI : Addr) (x : Str) : Bool := match K.lookup fI with
  | some ⟨_, _, .func fd, _⟩ => initFdB P K C x fd
  | _ => false
def xcB (P : Program) (K : PySem.W.Frag) (c : Str) : Bool := He.eqO (PySem.W.nsIn K mainGlobals c) (some (some (.ref (ga K c)))) && (oexB K (ga K c) && (PySem.W.excInitIn K (ga K c) He.veBase "ValueError.__new__" &&
  (decide (PySem.W.ks_superIn K (ga K c) (ga K c) "__init__" = some (some (.builtin "ValueError.__init__"))) && (decide (PySem.W.subIn K (.ref (ga K c)) (.type "ValueError") = some true) && (decide (PySem.W.nsIn K cStatics "thirdparty.any" = some none) &&
  (decide (PySem.W.mroIn K (ga K c) (.ref (ga K c)) = some true) && (decide (PySem.W.findIn K (.ref (ga K c)) (fld c) = some none) && (decide (PySem.W.findIn K (.ref (ga K c)) "__init__" = some (some (.ref (ma K (ga K c) "__init__")))) &&
  (decide (PySem.W.typeIn K (.ref (ma K (ga K c) "__init__")) = some (.type "function")) && (!(P.main.scope.names.lookup ("super" : Str)).isSome && initB P K (ga K c) (ma K (ga K c) "__init__") (fld c)))))))))))
def isB (K : PySem.W.Frag) (c : Str) : Bool := decide (PySem.W.findIn K (.ref (ga K c)) "__getattribute__" = some (some (.builtin "BaseException.__getattribute__"))) && (decide (PySem.W.findIn K (.ref (ga K c)) "__getattr__" = some none) && (decide (PySem.W.subIn K (.ref (ga K c)) (.type "BaseException") = some true) &&
  (PySem.W.hasDictIn K (ga K c) && (decide (PySem.W.findIn K (.ref (ga K c)) "__class__" = some (some (.builtin "object.__class__"))) && (decide (PySem.W.specialIn K (.builtin "object.__class__") "__get__" = some (some (.builtin "getset_descriptor.__get__"))) &&
  (decide (PySem.W.takesIn K (.builtin "object.__class__") = some true) && (decide (PySem.W.mroIn K (ga K c) (.type "object") = some true) && (decide (PySem.W.findIn K (.ref (ga K c)) (fld c) = some none) && (PySem.W.clsIn K (ga K c)).isSome))))))))
def exB (P : Program) (K : PySem.W.Frag) : Bool := excL.all (fun c => xcB P K c && isB K c) && (excL.all (fun c => excL.all fun c' => decide (PySem.W.kitOne K (.ref (ga K c)) (.ref (ga K c')) = some (decide (c = c')))) &&
  (He.eqO (PySem.W.nsIn K mainGlobals "CoreError") (some (some (.ref (ga K "CoreError")))) && excL.all (fun c => decide (PySem.W.exmOne K (.ref (ga K c)) (.ref (ga K "CoreError")) = some true))))
def asZ (g : Addr → Option Obj) : Nat → List Addr
  | 0 => [mainGlobals, cStatics]
  | n + 1 => He.growD g (asZ g n)
def frZ (n : Nat) (g : Addr → Option Obj) : PySem.W.Frag := He.frT g (asZ g n)
def apartB (tf : List Defn) (K : PySem.W.Frag) : Bool := decide ((tf.map fun p => (He.cT K p).2).Nodup)
structure SaysZ (fa : List Fa) (fn : List DefD) (tf : List Defn) (ex : PySem.W.Frag → Bool) (h : Heap) (K : PySem.W.Frag) : Prop where
  d : He.SaysD fa fn K
  more : ex K = true
  apart : apartB tf K = true
  hd : ∀ p ∈ tf, PySem.W.codeHdIn K (He.cT K p).1 (He.cT K p).2 = true
  out : ∀ p ∈ tf, K.lookup (He.cT K p).2 = none
  empty : ∀ p ∈ tf, h.get? (He.cT K p).2 = some { cls := .none, data := .fields #[] }
abbrev AlZ : Type := He.AlD × Bool
def obsZ (n : Nat) (fa : List Fa) (fn : List DefD) (tf : List Defn) (ex : PySem.W.Frag → Bool) (g : Addr → Option Obj) : AlZ := (He.obsD fa fn (frZ n g), ex (frZ n g) && (apartB tf (frZ n g) && He.tabsB g tf (frZ n g)))
theorem saysZ_of {n : Nat} {fa : List Fa} {fn : List DefD} {tf : List Defn} {ex : PySem.W.Frag → Bool} {h : Heap} (e : obsZ n fa fn tf ex h.get? = (He.valD fn, true)) : SaysZ fa fn tf ex h (frZ n h.get?) := by
  have e1 := congrArg Prod.fst e
  have e2 := congrArg Prod.snd e
  obtain ⟨h1, h2⟩ := ands e2
  obtain ⟨h2, h3⟩ := ands h2
  have look : ∀ p ∈ tf, PySem.W.codeHdIn (frZ n h.get?) (He.cT (frZ n h.get?) p).1 (He.cT (frZ n h.get?) p).2 = true ∧ ∃ o, h.get? (He.cT (frZ n h.get?) p).2 = some o ∧ He.emptyTab o = true := by
    intro p hp
    obtain ⟨g1, g2⟩ := ands (List.all_eq_true.mp h3 p hp)
    refine ⟨g1, ?_⟩
    split at g2
    · rename_i o ho
      exact ⟨o, ho, g2⟩
    · cases g2
  refine ⟨e1, h1, h2, fun p hp => (look p hp).1, fun p hp => ?_, fun p hp => ?_⟩
  · obtain ⟨_, o, q, z⟩ := look p hp
    exact He.frT_none q z
  · obtain ⟨_, o, q, z⟩ := look p hp
    rw [q, He.emptyTab_eq z]
def hookZ (n : Nat) (fa : List Fa) (fn : List DefD) (tf : List Defn) (ex : PySem.W.Frag → Bool) : PySem.W.Hook where
  α := AlZ
  obs := fun s => obsZ n fa fn tf ex s.heap.get?
  val := fun _ => (He.valD fn, true)
  says := fun _ h => ∃ K : PySem.W.Frag, K.In h ∧ SaysZ fa fn tf ex h K
  of := fun _ _ e => ⟨_, He.frT_in, saysZ_of e⟩
  keeps := fun _ _ _ ⟨K, hK, c⟩ k => ⟨K, PySem.W.Frag.In.keeps hK k, c.d, c.more, c.apart, c.hd, c.out, fun p hp => k _ _ (c.empty p hp)⟩
theorem obsZ_eq {n : Nat} {fa : List Fa} {fn : List DefD} {tf : List Defn} {ex : PySem.W.Frag → Bool} {g : Addr → Option Obj} {s : Shared} (h : ∀ a, g a = s.heap.get? a) : obsZ n fa fn tf ex g = (hookZ n fa fn tf ex).obs s := by
  obtain rfl : g = s.heap.get? := funext h
  rfl

def dOf (x : Str) (st : Stmt) : DefD := ⟨(x, none), x, x, defArgs st, defBody st, defScope st, [], []⟩
end Z


set_option Elab.async false
set_option linter.all false
set_option maxRecDepth 100000
set_option maxHeartbeats 0
namespace Z
open PySem PySem.Spec PyProof.Rows L2
open He (ga ma Fa DefD Defn)
def top (i : Nat) : Stmt := PySem.Challenge.pw_multipliedout_k95_texts_there_and_back.main.body.getD i (.Pass ⟨0, 0, 0, 0⟩)
abbrev lawR : PySem.W.OpenRow := PySem.W.OpenLaw.row PySem.Challenge.rw_multipliedout_k95_texts_there_and_back
def hNames0 : List PySem.Str := ["CoreError", "InvalidMatrix", "InvalidVector", "InvalidNumber", "InvalidQuestion", "InvalidLine", "InvalidText", "Unfit", "Undefined", "TooMany", "NothingDone", "MOST_SIZE"]
def hNames1 : List PySem.Str := ["MOST_NUMBER", "is_number", "is_from_to", "is_row", "is_vector", "is_matrix", "checked_vector", "checked_matrix", "joined", "FIGURES", "MOST_ORDER", "TYPE_PARTS"]
def hNames2 : List PySem.Str := ["number_told", "row_told", "write_matrix", "rows_told", "read_matrix", "vector_text", "write_vector", "read_vector", "text_of_type", "is_type", "type_text", "_law_begin"]
def hNames3 : List PySem.Str := ["_law_draw", "_law_same", "_law_told", "_law_raises", "_law_gives", "_law_handed", "_law_tuple", "_law_copy", "_law_number", "_law_numbers", "_law_is_wrong", "_law_matrix_due"]
def hNames4 : List PySem.Str := ["_law_vector_due", "_law_fits", "_law_one", "_law_bent", "_law_word", "_law_texts", "_law_matrices", "_law_vectors", "_law_types"]
def hNames : List PySem.Str := hNames0 ++ hNames1 ++ hNames2 ++ hNames3 ++ hNames4
def hFn0 : List DefD := [dOf "_law_begin" (top 39), dOf "_law_draw" (top 40), dOf "_law_same" (top 41), dOf "_law_gives" (top 44), dOf "_law_raises" (top 43), dOf "joined" (top 22), dOf "text_of_type" (top 35), dOf "is_row" (top 17), dOf "is_number" (top 15), dOf "is_from_to" (top 16), dOf "is_type" (top 36), dOf "type_text" (top 37)]
def hFn1 : List DefD := [dOf "_law_types" (top 60), dOf "_law_copy" (top 47), dOf "_law_tuple" (top 46), dOf "_law_handed" (top 45), dOf "_law_bent" (top 55), dOf "_law_word" (top 56), dOf "_law_texts" (top 57), dOf "_law_one" (top 54), dOf "_law_fits" (top 53), dOf "_law_number" (top 48), dOf "_law_numbers" (top 49), dOf "_law_is_wrong" (top 50)]
def hFn2 : List DefD := [dOf "_law_matrix_due" (top 51), dOf "number_told" (top 27), dOf "row_told" (top 28), dOf "rows_told" (top 30), dOf "read_matrix" (top 31), dOf "is_vector" (top 18), dOf "is_matrix" (top 19), dOf "checked_matrix" (top 21), dOf "write_matrix" (top 29), dOf "_law_matrices" (top 58), dOf "_law_vector_due" (top 52), dOf "read_vector" (top 34)]
def hFn3 : List DefD := [dOf "vector_text" (top 32), dOf "checked_vector" (top 20), dOf "write_vector" (top 33), dOf "_law_vectors" (top 59), dOf "law" (top 61), dOf "_law_told" (top 42)]
def hFn : List DefD := hFn0 ++ hFn1 ++ hFn2 ++ hFn3
def hFa0 : List Fa := [.free "abs", .free "len", .free "tuple", .free "list", .free "sum", .free "all", .free "any", .free "int", .free "str", .free "max", .free "min", .free "isinstance"]
def hFa1 : List Fa := [.free "range", .free "enumerate", .free "zip", .free "bool", .free "super", .glo "_law_begin", .glo "_law_draw", .glo "_law_same", .glo "_law_gives", .glo "_law_raises", .glo "joined", .glo "text_of_type"]
def hFa2 : List Fa := [.glo "is_row", .glo "is_number", .glo "is_from_to", .glo "is_type", .glo "type_text", .glo "_law_types", .glo "_law_copy", .glo "_law_tuple", .glo "_law_handed", .glo "_law_bent", .glo "_law_word", .glo "_law_texts"]
def hFa3 : List Fa := [.glo "_law_one", .glo "_law_fits", .glo "_law_number", .glo "_law_numbers", .glo "_law_is_wrong", .glo "_law_matrix_due", .glo "number_told", .glo "row_told", .glo "rows_told", .glo "read_matrix", .glo "is_vector", .glo "is_matrix"]
def hFa4 : List Fa := [.glo "checked_matrix", .glo "write_matrix", .glo "_law_matrices", .glo "_law_vector_due", .glo "read_vector", .glo "vector_text", .glo "checked_vector", .glo "write_vector", .glo "_law_vectors", .glo "law", .glo "_law_told", .int "MOST_SIZE" 8]
def hFa5 : List Fa := [.int "MOST_NUMBER" 1000000, .int "FIGURES" 7, .int "MOST_ORDER" 1000000000000000000000000000000000000000000000000000000000000, .int "TYPE_PARTS" 2]
def hFa : List Fa := hFa0 ++ hFa1 ++ hFa2 ++ hFa3 ++ hFa4 ++ hFa5
def hTf : List Defn := [("_law_types", none), ("_law_matrices", none), ("_law_vectors", none)]
abbrev hHk : PySem.W.Hook := hookZ 5 hFa hFn hTf (exB PySem.Challenge.rw_multipliedout_k95_texts_there_and_back.prog)
def hOb (s : PySem.W.SharedT) : AlZ := obsZ 5 hFa hFn hTf (exB PySem.Challenge.rw_multipliedout_k95_texts_there_and_back.prog) (HandSHeadRun.getT s)
theorem hOb_eq (s : PySem.W.SharedT) : hOb s = hHk.obs s.abs := obsZ_eq (HandSHeadRun.getT_eq s)
theorem hRun (w : World) : HandSHeadRun.RunEq lawR (PySem.W.view lawR.prog [61]) hHk hOb 12000 hNames w := by
  intro os
  kernel_rfl
end Z


set_option Elab.async false
set_option linter.all false
set_option maxRecDepth 100000
set_option maxHeartbeats 4000000
namespace Z
open PySem PySem.Spec PyProof.Rows L2
open LamX (Tabs TabS ExtN CodeO)

/-! ## data -/
/-- data: what a value stands for; ptr k: the k-th object of the store -/
inductive D where
  | non | bl (b : Bool) | int (i : Int) | str (x : Str) | fn (f : Str) | tup (xs : List D) | lst (xs : List D) | ptr (k : Nat) | scr (ns : List Int)
  deriving Inhabited

/-- an object of the store -/
inductive O where
  | lst (xs : List D)
  deriving Inhabited
abbrev Store := List O
/-- what an expression comes to: a value, or an error's class and what it keeps -/
inductive R (α : Type) where
  | ok (a : α)
  | err (c : Str) (d : D)
abbrev M (α : Type) := Option (R α × Store)
abbrev Fn := List D → Store → M D
abbrev Rho := List (Option D)

/-- where one stands: the written part, the module's names -/
structure Bd where
  K : PySem.W.Frag
  mg : Str → Option Value
  T : List (Addr × Str)
  P : Program
  w : World
  base : Heap
/-- .. and what is pinned besides (the lists that comprehensions around make) -/
structure Wd extends Bd where
  pin : Hp
instance : CoeOut Wd Bd := ⟨Wd.toBd⟩

section
variable (G : Bd) (F : Hp) (A : List Addr)
mutual
def IsD : D → V → Prop
  | .non, v => v = .non
  | .bl b, v => v = .bl b
  | .int i, v => v = .int i
  | .str x, v => v = .str x
  | .fn f, v => ∃ a, G.mg f = some (.ref a) ∧ v = .ref a
  | .tup ds, v => ∃ p vs, v = .ref p ∧ SqT G.K F p vs ∧ IsDs ds vs
  | .lst ds, v => ∃ p vs, v = .ref p ∧ F p = some (.lst vs) ∧ IsDs ds vs
  | .ptr k, v => ∃ p, A[k]? = some p ∧ v = .ref p
  | .scr ns, v => ∃ p, v = .ref p ∧ SqL G.K F p (ns.map V.int)
def IsDs : List D → List V → Prop
  | [], vs => vs = []
  | d :: ds, vs => ∃ v ws, vs = v :: ws ∧ IsD d v ∧ IsDs ds ws
end
def IsO : O → HO → Prop
  | .lst ds, o => ∃ vs, o = .lst vs ∧ IsDs G F A ds vs
end

/-- the frozen part F, the store's objects at A -/
structure S0 (G : Wd) (F : Hp) (A : List Addr) (H : Hp) (S : Store) : Prop where
  sub : ∀ a o, F a = some o → H a = some o
  out : ∀ a ∈ A, F a = none
  nd : A.Nodup
  len : A.length = S.length
  obj : ∀ (k : Nat) (p : Addr) (o : O), A[k]? = some p → S[k]? = some o → ∃ u, H p = some u ∧ IsO G F A o u
  ntb : ∀ a ps, F a ≠ some (.tbl ps)
  tab : Tabs G.T H
  pin : ∀ a o, G.pin a = some o → H a = some o ∧ F a = none ∧ a ∉ A
  npt : ∀ a ps, G.pin a ≠ some (.tbl ps)
/-- slots -/
def Sl (G : Bd) (F : Hp) (A : List Addr) (σ : L2.St) (ρ : Rho) : Prop := σ.length = ρ.length ∧ ∀ (i : Nat) d, ρ[i]? = some (some d) → ∃ v, σ[i]? = some (some v) ∧ IsD G F A d v
/-- more is frozen, more stands in the store -/
structure Gr (F : Hp) (A : List Addr) (F' : Hp) (A' : List Addr) : Prop where
  ex : ∀ a o, F a = some o → F' a = some o
  pre : ∃ B, A' = A ++ B
theorem Gr.refl {F : Hp} {A : List Addr} : Gr F A F A := ⟨fun _ _ h => h, [], by simp⟩
theorem Gr.trans {F F1 F2 : Hp} {A A1 A2 : List Addr} (a : Gr F A F1 A1) (b : Gr F1 A1 F2 A2) : Gr F A F2 A2 := by
  obtain ⟨B1, rfl⟩ := a.pre
  obtain ⟨B2, rfl⟩ := b.pre
  exact ⟨fun x o h => b.ex x o (a.ex x o h), B1 ++ B2, by simp⟩
theorem Gr.get {F F' : Hp} {A A' : List Addr} (g : Gr F A F' A') {k : Nat} {p : Addr} (h : A[k]? = some p) : A'[k]? = some p := by
  obtain ⟨B, rfl⟩ := g.pre
  have hk := (List.getElem?_eq_some_iff.mp h).1
  rw [List.getElem?_append_left hk, h]
theorem Gr.sqt {K : PySem.W.Frag} {F F' : Hp} {A A' : List Addr} (g : Gr F A F' A') {p : Addr} {vs : List V} (h : SqT K F p vs) : SqT K F' p vs := by
  rcases h with (h | ⟨o, h⟩) | h
  · exact .inl (.inl (g.ex _ _ h))
  · exact .inl (.inr ⟨o, g.ex _ _ h⟩)
  · exact .inr h
theorem Gr.sql {K : PySem.W.Frag} {F F' : Hp} {A A' : List Addr} (g : Gr F A F' A') {p : Addr} {vs : List V} (h : SqL K F p vs) : SqL K F' p vs := by
  rcases h with (h | ⟨o, h⟩) | h
  · exact .inl (.inl (g.ex _ _ h))
  · exact .inl (.inr ⟨o, g.ex _ _ h⟩)
  · exact .inr h
mutual
theorem IsD.gr {G : Bd} {F F' : Hp} {A A' : List Addr} (g : Gr F A F' A') : ∀ (d : D) (v : V), IsD G F A d v → IsD G F' A' d v
  | .non, v, h => by simpa only [IsD] using h
  | .bl b, v, h => by simpa only [IsD] using h
  | .int i, v, h => by simpa only [IsD] using h
  | .str x, v, h => by simpa only [IsD] using h
  | .fn f, v, h => by simpa only [IsD] using h
  | .tup ds, v, h => by
    simp only [IsD] at h ⊢
    obtain ⟨p, vs, e, h1, h2⟩ := h
    exact ⟨p, vs, e, g.sqt h1, IsDs.gr g ds vs h2⟩
  | .lst ds, v, h => by
    simp only [IsD] at h ⊢
    obtain ⟨p, vs, e, h1, h2⟩ := h
    exact ⟨p, vs, e, g.ex _ _ h1, IsDs.gr g ds vs h2⟩
  | .ptr k, v, h => by
    simp only [IsD] at h ⊢
    obtain ⟨p, e, h1⟩ := h
    exact ⟨p, g.get e, h1⟩
  | .scr ns, v, h => by
    simp only [IsD] at h ⊢
    obtain ⟨p, e, h1⟩ := h
    exact ⟨p, e, g.sql h1⟩
theorem IsDs.gr {G : Bd} {F F' : Hp} {A A' : List Addr} (g : Gr F A F' A') : ∀ (ds : List D) (vs : List V), IsDs G F A ds vs → IsDs G F' A' ds vs
  | [], vs, h => by simpa only [IsDs] using h
  | d :: ds, vs, h => by
    simp only [IsDs] at h ⊢
    obtain ⟨v, ws, e, h1, h2⟩ := h
    exact ⟨v, ws, e, IsD.gr g d v h1, IsDs.gr g ds ws h2⟩
end
theorem IsO.gr {G : Bd} {F F' : Hp} {A A' : List Addr} (g : Gr F A F' A') : ∀ (o : O) (u : HO), IsO G F A o u → IsO G F' A' o u
  | .lst ds, u, h => by
    obtain ⟨vs, e, h1⟩ := h
    exact ⟨vs, e, h1.gr g⟩
theorem Sl.gr {G : Bd} {F F' : Hp} {A A' : List Addr} {σ : L2.St} {ρ : Rho} (g : Gr F A F' A') (h : Sl G F A σ ρ) : Sl G F' A' σ ρ :=
  ⟨h.1, fun i d e => let ⟨v, h1, h2⟩ := h.2 i d e; ⟨v, h1, h2.gr g⟩⟩

section
variable {G : Bd} {F : Hp} {A : List Addr}
theorem isDs_cons {d : D} {ds : List D} {vs : List V} : IsDs G F A (d :: ds) vs ↔ ∃ v ws, vs = v :: ws ∧ IsD G F A d v ∧ IsDs G F A ds ws := by simp only [IsDs]
theorem isDs_nil {vs : List V} : IsDs G F A [] vs ↔ vs = [] := by simp only [IsDs]
theorem IsDs.len : ∀ {ds : List D} {vs : List V}, IsDs G F A ds vs → vs.length = ds.length
  | [], vs, h => by rw [isDs_nil.mp h]; rfl
  | d :: ds, vs, h => by
    obtain ⟨v, ws, rfl, _, h2⟩ := isDs_cons.mp h
    simp [IsDs.len h2]
theorem IsDs.get : ∀ {ds : List D} {vs : List V} {i : Nat} {d : D}, IsDs G F A ds vs → ds[i]? = some d → ∃ v, vs[i]? = some v ∧ IsD G F A d v
  | [], vs, i, d, h, e => by simp at e
  | d0 :: ds, vs, i, d, h, e => by
    obtain ⟨v, ws, rfl, h1, h2⟩ := isDs_cons.mp h
    cases i with
    | zero =>
      simp at e
      subst e
      exact ⟨v, rfl, h1⟩
    | succ i => simpa using IsDs.get h2 (by simpa using e)
theorem IsDs.append : ∀ {ds es : List D} {vs ws : List V}, IsDs G F A ds vs → IsDs G F A es ws → IsDs G F A (ds ++ es) (vs ++ ws)
  | [], es, vs, ws, h, k => by rw [isDs_nil.mp h]; simpa using k
  | d :: ds, es, vs, ws, h, k => by
    obtain ⟨v, us, rfl, h1, h2⟩ := isDs_cons.mp h
    exact isDs_cons.mpr ⟨v, us ++ ws, by simp, h1, IsDs.append h2 k⟩
theorem IsDs.take : ∀ {ds : List D} {vs : List V} (n : Nat), IsDs G F A ds vs → IsDs G F A (ds.take n) (vs.take n)
  | ds, vs, 0, h => by simp [IsDs]
  | [], vs, n + 1, h => by rw [isDs_nil.mp h]; simp [IsDs]
  | d :: ds, vs, n + 1, h => by
    obtain ⟨v, us, rfl, h1, h2⟩ := isDs_cons.mp h
    exact isDs_cons.mpr ⟨v, us.take n, by simp, h1, IsDs.take n h2⟩
theorem IsDs.drop : ∀ {ds : List D} {vs : List V} (n : Nat), IsDs G F A ds vs → IsDs G F A (ds.drop n) (vs.drop n)
  | ds, vs, 0, h => by simpa using h
  | [], vs, n + 1, h => by rw [isDs_nil.mp h]; simp [IsDs]
  | d :: ds, vs, n + 1, h => by
    obtain ⟨v, us, rfl, h1, h2⟩ := isDs_cons.mp h
    simpa using IsDs.drop n h2
theorem IsDs.set : ∀ {ds : List D} {vs : List V} (i : Nat) {d : D} {v : V}, IsDs G F A ds vs → IsD G F A d v → IsDs G F A (ds.set i d) (vs.set i v)
  | [], vs, i, d, v, h, k => by rw [isDs_nil.mp h]; simp [IsDs]
  | d0 :: ds, vs, 0, d, v, h, k => by
    obtain ⟨v0, us, rfl, h1, h2⟩ := isDs_cons.mp h
    exact isDs_cons.mpr ⟨v, us, rfl, k, h2⟩
  | d0 :: ds, vs, i + 1, d, v, h, k => by
    obtain ⟨v0, us, rfl, h1, h2⟩ := isDs_cons.mp h
    exact isDs_cons.mpr ⟨v0, us.set i v, rfl, h1, IsDs.set i h2 k⟩
theorem Sl.set {σ : L2.St} {ρ : Rho} (h : Sl G F A σ ρ) (i : Nat) {d : D} {v : V} (k : IsD G F A d v) : Sl G F A (σ.set i (some v)) (ρ.set i (some d)) := by
  refine ⟨by simp [h.1], fun j d' e => ?_⟩
  by_cases hj : i = j
  · subst hj
    by_cases hl : i < ρ.length
    · rw [List.getElem?_set_self hl] at e
      cases e
      exact ⟨v, by rw [List.getElem?_set_self (by rw [h.1]; exact hl)], k⟩
    · rw [List.getElem?_eq_none (by simpa using hl)] at e
      cases e
  · rw [List.getElem?_set_ne hj] at e
    obtain ⟨v', h1, h2⟩ := h.2 j d' e
    exact ⟨v', by rw [List.getElem?_set_ne hj]; exact h1, h2⟩
theorem Sl.forget {σ : L2.St} {ρ : Rho} (h : Sl G F A σ ρ) (i : Nat) {o : Option V} : Sl G F A (σ.set i o) (ρ.set i none) := by
  refine ⟨by simp [h.1], fun j d' e => ?_⟩
  by_cases hj : i = j
  · subst hj
    by_cases hl : i < ρ.length
    · rw [List.getElem?_set_self hl] at e
      cases e
    · rw [List.getElem?_eq_none (by simpa using hl)] at e
      cases e
  · rw [List.getElem?_set_ne hj] at e
    obtain ⟨v', h1, h2⟩ := h.2 j d' e
    exact ⟨v', by rw [List.getElem?_set_ne hj]; exact h1, h2⟩
end

/-! ### the store's steps -/
section
variable {G : Wd} {F : Hp} {A : List Addr} {H : Hp} {S : Store}
theorem sq_free {a : Addr} (h : S0 G F A H S) (n : H a = none) : F a = none := by
  cases q : F a with
  | none => rfl
  | some u => rw [h.sub a u q] at n; cases n
theorem S0.newA (h : S0 G F A H S) {a : Addr} (n : H a = none) : a ∉ A := fun z => by
  obtain ⟨k, hk⟩ := List.mem_iff_getElem?.mp z
  have hl : k < S.length := by rw [← h.len]; exact (List.getElem?_eq_some_iff.mp hk).1
  obtain ⟨u, e, _⟩ := h.obj k a S[k] hk (by simp [hl])
  rw [n] at e
  cases e
theorem tabs_upd {T : List (Addr × Str)} {H : Hp} {p : Addr} {o : HO} (n : H p = none) (t : Tabs T H) : Tabs T (upd H p o) := t.ext fun b u e => by rw [upd_ne (ne_of_none e n)]; exact e
/-- a new object is frozen -/
theorem S0.frz (h : S0 G F A H S) {p : Addr} {o : HO} (n : H p = none) (nt : ∀ ps, o ≠ .tbl ps) : S0 G (upd F p o) A (upd H p o) S ∧ Gr F A (upd F p o) A := by
  have hF : F p = none := by
    cases q : F p with
    | none => rfl
    | some u => rw [h.sub p u q] at n; cases n
  have g : Gr F A (upd F p o) A := ⟨fun a u e => by rw [upd_ne (ne_of_none e hF)]; exact e, [], by simp⟩
  have pA := h.newA n
  have np : ∀ a u, G.pin a = some u → a ≠ p := fun a u e z => by
    have := (h.pin a u e).1
    rw [z, n] at this
    cases this
  refine ⟨⟨fun a u e => ?_, fun a ha => ?_, h.nd, h.len, fun k q u e1 e2 => ?_, fun a ps e => ?_, tabs_upd n h.tab, fun a u e => by rw [upd_ne (np a u e), upd_ne (np a u e)]; exact h.pin a u e, h.npt⟩, g⟩
  · by_cases ha : a = p
    · subst ha; rw [upd_same] at e ⊢; exact e
    · rw [upd_ne ha] at e ⊢; exact h.sub a u e
  · have hne : a ≠ p := fun z => pA (z ▸ ha)
    rw [upd_ne hne]; exact h.out a ha
  · obtain ⟨w, h1, h2⟩ := h.obj k q u e1 e2
    have : q ≠ p := fun z => pA (z ▸ List.mem_of_getElem? e1)
    exact ⟨w, by rw [upd_ne this]; exact h1, h2.gr g⟩
  · by_cases ha : a = p
    · subst ha; rw [upd_same] at e; exact nt ps (Option.some.inj e)
    · rw [upd_ne ha] at e; exact h.ntb a ps e
/-- a new object stands in the store -/
theorem S0.new (h : S0 G F A H S) {p : Addr} {u : HO} {o : O} (n : H p = none) (r : IsO G F (A ++ [p]) o u) : S0 G F (A ++ [p]) (upd H p u) (S ++ [o]) ∧ Gr F A F (A ++ [p]) := by
  have hF : F p = none := by
    cases q : F p with
    | none => rfl
    | some u => rw [h.sub p u q] at n; cases n
  have g : Gr F A F (A ++ [p]) := ⟨fun _ _ e => e, [p], rfl⟩
  have pA := h.newA n
  have np : ∀ a u, G.pin a = some u → a ≠ p := fun a u e z => by
    have := (h.pin a u e).1
    rw [z, n] at this
    cases this
  refine ⟨⟨fun a v e => ?_, fun a ha => ?_, ?_, by simp [h.len], fun k q v e1 e2 => ?_, h.ntb, tabs_upd n h.tab, fun a u e => by
    rw [upd_ne (np a u e)]
    refine ⟨(h.pin a u e).1, (h.pin a u e).2.1, fun z => ?_⟩
    rcases List.mem_append.mp z with z | z
    · exact (h.pin a u e).2.2 z
    · exact np a u e (List.mem_singleton.mp z), h.npt⟩, g⟩
  · rw [upd_ne (ne_of_none e hF)]; exact h.sub a v e
  · rcases List.mem_append.mp ha with ha | ha
    · exact h.out a ha
    · rw [List.mem_singleton.mp ha]; exact hF
  · rw [List.nodup_append]
    exact ⟨h.nd, by simp, fun a ha b hb => by rw [List.mem_singleton.mp hb]; exact fun z => pA (z ▸ ha)⟩
  · by_cases hk : k < A.length
    · rw [List.getElem?_append_left hk] at e1
      rw [List.getElem?_append_left (by rw [← h.len]; exact hk)] at e2
      obtain ⟨w, h1, h2⟩ := h.obj k q v e1 e2
      have : q ≠ p := fun z => pA (z ▸ List.mem_of_getElem? e1)
      exact ⟨w, by rw [upd_ne this]; exact h1, h2.gr g⟩
    · have hk2 : A.length ≤ k := Nat.le_of_not_lt hk
      rw [List.getElem?_append_right hk2] at e1
      rw [List.getElem?_append_right (by rw [← h.len]; exact hk2), ← h.len] at e2
      have e0 : k - A.length = 0 := by
        have := (List.getElem?_eq_some_iff.mp e1).1
        simp at this
        exact this
      rw [e0] at e1 e2
      simp at e1 e2
      subst e1 e2
      exact ⟨u, upd_same, r⟩
/-- an object of the store is written -/
theorem S0.wr (h : S0 G F A H S) {k : Nat} {p : Addr} {u u0 : HO} {o : O} (hk : A[k]? = some p) (r : IsO G F A o u) (h0 : H p = some u0) (nt : ∀ ps, u0 ≠ .tbl ps) : S0 G F A (upd H p u) (S.set k o) := by
  have hF : F p = none := h.out p (List.mem_of_getElem? hk)
  refine ⟨fun a v e => ?_, h.out, h.nd, by simp [h.len], fun j q v e1 e2 => ?_, h.ntb, fun q hq => ?_, fun a v e => ?_, h.npt⟩
  · rw [upd_ne (ne_of_none e hF)]; exact h.sub a v e
  · by_cases hj : k = j
    · subst hj
      rw [hk] at e1
      cases e1
      have hl : k < S.length := by rw [← h.len]; exact (List.getElem?_eq_some_iff.mp hk).1
      rw [List.getElem?_set_self hl] at e2
      cases e2
      exact ⟨u, upd_same, r⟩
    · rw [List.getElem?_set_ne hj] at e2
      obtain ⟨w, h1, h2⟩ := h.obj j q v e1 e2
      have hne : q ≠ p := fun z => by
        subst z
        obtain ⟨l1, x1⟩ := List.getElem?_eq_some_iff.mp hk
        obtain ⟨l2, x2⟩ := List.getElem?_eq_some_iff.mp e1
        exact hj ((List.getElem_inj h.nd).mp (x1.trans x2.symm))
      exact ⟨w, by rw [upd_ne hne]; exact h1, h2⟩
  · obtain ⟨ps, h1, h2, h3⟩ := h.tab q hq
    have ne1 : q.1 ≠ p := fun z => by rw [z, h0] at h1; exact nt ps (Option.some.inj h1)
    refine ⟨ps, by rw [upd_ne ne1]; exact h1, h2, fun pos cv hc => ?_⟩
    obtain ⟨c, e1, e2⟩ := h3 pos cv hc
    refine ⟨c, e1, ?_⟩
    have ne2 : c ≠ p := fun z => by
      rw [z, h0] at e2
      have e3 : u0 = CodeO p q.2 := by rw [← z]; exact Option.some.inj (by rw [z]; exact e2)
      obtain ⟨w, h1', h2'⟩ : ∃ w, H p = some w ∧ ∃ o, IsO G F A o w := by
        have hl : k < S.length := by rw [← h.len]; exact (List.getElem?_eq_some_iff.mp hk).1
        obtain ⟨w, a1, a2⟩ := h.obj k p S[k] hk (by simp [hl])
        exact ⟨w, a1, _, a2⟩
      rw [h0] at h1'
      cases h1'
      obtain ⟨o', ho'⟩ := h2'
      cases o' with
      | lst ds =>
        obtain ⟨vs, e4, _⟩ := ho'
        rw [e3] at e4
        cases e4
    rw [upd_ne ne2]
    exact e2
  · have z := h.pin a v e
    rw [upd_ne (fun y => z.2.2 (by rw [y]; exact List.mem_of_getElem? hk))]
    exact z
/-- more is pinned -/
def Wd.pn (G : Wd) (p : Addr) (o : HO) : Wd := { G with pin := upd G.pin p o }
theorem S0.pn (h : S0 G F A H S) {p : Addr} {o : HO} (n : H p = none) (nt : ∀ ps, o ≠ .tbl ps) : S0 (G.pn p o) F A (upd H p o) S := by
  have hF : F p = none := sq_free h n
  have pA := h.newA n
  refine ⟨fun a v e => ?_, h.out, h.nd, h.len, fun k q v e1 e2 => ?_, h.ntb, tabs_upd n h.tab, fun a v e => ?_, fun a ps e => ?_⟩
  · rw [upd_ne (ne_of_none e hF)]; exact h.sub a v e
  · obtain ⟨w, h1, h2⟩ := h.obj k q v e1 e2
    have : q ≠ p := fun z => pA (z ▸ List.mem_of_getElem? e1)
    exact ⟨w, by rw [upd_ne this]; exact h1, h2⟩
  · by_cases ha : a = p
    · subst ha
      have e' : upd G.pin a o a = some v := e
      rw [upd_same] at e' ⊢
      exact ⟨e', hF, pA⟩
    · have e' : upd G.pin p o a = some v := e
      rw [upd_ne ha] at e' ⊢
      exact h.pin a v e'
  · by_cases ha : a = p
    · subst ha
      have e' : upd G.pin a o a = some (.tbl ps) := e
      rw [upd_same] at e'
      exact nt ps (Option.some.inj e')
    · have e' : upd G.pin p o a = some (.tbl ps) := e
      rw [upd_ne ha] at e'
      exact h.npt a ps e'
end
end Z


set_option Elab.async false
set_option linter.all false
set_option maxRecDepth 100000
set_option maxHeartbeats 4000000
namespace Z
open PySem PySem.Spec PyProof.Rows L2
open LamX (Tabs TabS ExtN CodeO)

/-! ## what a piece of text does, by the machine itself -/
section
variable (X : Cx)
def SmE (e : Expr) : TE := fun σ H Q => ∀ pins s, Inv X pins σ H s → wpAny (model X.prog X.w) X.A (eval e X.env) (EP X pins σ Q) X.xe s
def SmT (e : Expr) : TT := fun σ H Q => ∀ pins s, Inv X pins σ H s → wpAny (model X.prog X.w) X.A (isTrue e X.env (eval e X.env)) (TP X pins σ Q) X.xe s
def SmA (es : List Expr) : TA := fun σ H Q => ∀ pos pins s, Inv X pins σ H s → wpAny (model X.prog X.w) X.A (spliced (backTo pos (starEach es X.env))) (AP X pins σ Q) X.xe s
def SmS (st : Stmt) : TS := fun D σ H => ∀ pins s, Inv X pins σ H s → wpAny (model X.prog X.w) X.A (exec st X.env) (SP X pins D) X.xe s
def SmB (st : List Stmt) : TS := fun D σ H => ∀ pins s, Inv X pins σ H s → wpAny (model X.prog X.w) X.A (execs st X.env) (SP X pins D) X.xe s
def SmO (f : Value → Value → Sem Value) : R2 := fun x y H Q => ∀ pins s σ v u, Inv X pins σ H s → RelV x v → RelV y u → wpAny (model X.prog X.w) X.A (f v u) (EP X pins σ Q) X.xe s
end
section
variable {X : Cx} {e : Expr} {es : List Expr} {st : Stmt} {sts : List Stmt}
theorem smE : PE X e (SmE X e) := ⟨fun pins s σ H Q I h => h pins s I⟩
theorem smT : PT X e (SmT X e) := ⟨fun pins s σ H Q I h => h pins s I⟩
theorem smA : PA X es (SmA X es) := ⟨fun pos pins s σ H Q I h => h pos pins s I⟩
theorem smS : PS X st (SmS X st) := ⟨fun pins s σ H D I h => h pins s I⟩
theorem smB : PSs X sts (SmB X sts) := ⟨fun pins s σ H D I h => h pins s I⟩
theorem smO {f : Value → Value → Sem Value} : OpR X f (SmO X f) := fun pins s σ H x y v u Q I r1 r2 h => h pins s σ v u I r1 r2
theorem SmE.of {t : TE} (h : PE X e t) {σ : L2.St} {H : Hp} {Q : VK} (q : t σ H Q) : SmE X e σ H Q := fun pins s I => h.run pins s σ H Q I q
theorem SmT.of {t : TT} (h : PT X e t) {σ : L2.St} {H : Hp} {Q : Bool → Hp → Prop} (q : t σ H Q) : SmT X e σ H Q := fun pins s I => h.run pins s σ H Q I q
theorem SmA.of {t : TA} (h : PA X es t) {σ : L2.St} {H : Hp} {Q : List V → Hp → Prop} (q : t σ H Q) : SmA X es σ H Q := fun pos pins s I => h.run pos pins s σ H Q I q
theorem SmS.of {t : TS} (h : PS X st t) {σ : L2.St} {H : Hp} {D : Ends} (q : t D σ H) : SmS X st D σ H := fun pins s I => h.run pins s σ H D I q
theorem SmB.of {t : TS} (h : PSs X sts t) {σ : L2.St} {H : Hp} {D : Ends} (q : t D σ H) : SmB X sts D σ H := fun pins s I => h.run pins s σ H D I q
theorem SmO.of {f : Value → Value → Sem Value} {r : R2} (h : OpR X f r) {x y : V} {H : Hp} {Q : VK} (q : r x y H Q) : SmO X f x y H Q := fun pins s σ v u I r1 r2 => h pins s σ H x y v u Q I r1 r2 q
theorem SmE.mono {σ : L2.St} {H : Hp} {Q Q' : VK} (h : SmE X e σ H Q) (q : ∀ v H', Q v H' → Q' v H') : SmE X e σ H Q' := fun pins s I =>
  thn (h pins s I) fun u s' ⟨v, H', I', r, z⟩ => ⟨v, H', I', r, q v H' z⟩
end

/-! ## the ends -/
section
variable (G : Wd) (W : WX) (F : Hp) (A : List Addr) (σ : L2.St) (S' : Store)
def ErrP (c : Str) (d : D) : Prop := ∀ C dd v F' A' H' σ', σ'.length = σ.length → S0 G F' A' H' S' → Gr F A F' A' → G.mg c = some (.ref C) → F' dd = some (.xd [(fld c, v)]) → IsD G F' A' d v → W (.ref C) (some dd) σ' H'
def PostE (Q : VK) : R D → Prop
  | .ok d => ∀ v F' A' H', S0 G F' A' H' S' → Gr F A F' A' → IsD G F' A' d v → Q v H'
  | .err c d => ErrP G W F A σ S' c d
def PostA (Q : List V → Hp → Prop) : R (List D) → Prop
  | .ok ds => ∀ vs F' A' H', S0 G F' A' H' S' → Gr F A F' A' → IsDs G F' A' ds vs → Q vs H'
  | .err c d => ErrP G W F A σ S' c d
def PostT (Q : Bool → Hp → Prop) : R Bool → Prop
  | .ok b => ∀ F' A' H', S0 G F' A' H' S' → Gr F A F' A' → Q b H'
  | .err c d => ErrP G W F A σ S' c d
end
theorem ErrP.gr {G : Wd} {W : WX} {F F1 : Hp} {A A1 : List Addr} {σ : L2.St} {S' : Store} {c : Str} {d : D} (g : Gr F A F1 A1) (h : ErrP G W F A σ S' c d) : ErrP G W F1 A1 σ S' c d :=
  fun C dd v F' A' H' σ' hl h0 g' => h C dd v F' A' H' σ' hl h0 (g.trans g')
theorem PostE.gr {G : Wd} {W : WX} {F F1 : Hp} {A A1 : List Addr} {σ : L2.St} {S' : Store} {Q : VK} {r : R D} (g : Gr F A F1 A1) (h : PostE G W F A σ S' Q r) : PostE G W F1 A1 σ S' Q r := by
  cases r with
  | ok d => exact fun v F' A' H' h0 g' => h v F' A' H' h0 (g.trans g')
  | err c d => exact ErrP.gr g h

/-- the expression does what m says -/
def EvE (G : Wd) (X : Cx) (W : WX) (e : Expr) (ρ : Rho) (S : Store) (m : M D) : Prop :=
  ∀ r S', m = some (r, S') → ∀ σ H F A, S0 G F A H S → Sl G F A σ ρ → ∀ Q, PostE G W F A σ S' Q r → SmE X e σ H Q
def EvA (G : Wd) (X : Cx) (W : WX) (es : List Expr) (ρ : Rho) (S : Store) (m : M (List D)) : Prop :=
  ∀ r S', m = some (r, S') → ∀ σ H F A, S0 G F A H S → Sl G F A σ ρ → ∀ Q, PostA G W F A σ S' Q r → SmA X es σ H Q
def EvT (G : Wd) (X : Cx) (W : WX) (e : Expr) (ρ : Rho) (S : Store) (m : M Bool) : Prop :=
  ∀ r S', m = some (r, S') → ∀ σ H F A, S0 G F A H S → Sl G F A σ ρ → ∀ Q, PostT G W F A σ S' Q r → SmT X e σ H Q
/-- an operation on values does what m says -/
def OpX (G : Wd) (X : Cx) (f : Value → Value → Sem Value) (x y : D) (S : Store) (m : Option (D × Store)) : Prop :=
  ∀ d S', m = some (d, S') → ∀ H F A v w, S0 G F A H S → IsD G F A x v → IsD G F A y w → ∀ Q : VK, (∀ v F' A' H', S0 G F' A' H' S' → Gr F A F' A' → IsD G F' A' d v → Q v H') → SmO X f v w H Q

/-! ## the monad -/
def bnd {α β : Type} : M α → (α → Store → M β) → M β
  | none, _ => none
  | some (.err c d, S), _ => some (.err c d, S)
  | some (.ok a, S), k => k a S
def pur {α : Type} (a : α) (S : Store) : M α := some (.ok a, S)
def lft {α : Type} : Option (α × Store) → M α
  | none => none
  | some (a, S) => some (.ok a, S)
@[simp] theorem bnd_none {α β : Type} (k : α → Store → M β) : bnd none k = none := rfl
@[simp] theorem bnd_err {α β : Type} (c : Str) (d : D) (S : Store) (k : α → Store → M β) : bnd (some (.err c d, S)) k = some (.err c d, S) := rfl
@[simp] theorem bnd_ok {α β : Type} (a : α) (S : Store) (k : α → Store → M β) : bnd (some (.ok a, S)) k = k a S := rfl
@[simp] theorem bnd_pur {α β : Type} (a : α) (S : Store) (k : α → Store → M β) : bnd (pur a S) k = k a S := rfl
@[simp] theorem lft_none {α : Type} : lft (α := α) none = none := rfl
@[simp] theorem lft_some {α : Type} (a : α) (S : Store) : lft (some (a, S)) = pur a S := rfl
theorem bnd_some {α β : Type} {m : M α} {k : α → Store → M β} {r : R β} {S' : Store} (h : bnd m k = some (r, S')) : (∃ c d, m = some (.err c d, S') ∧ r = .err c d) ∨ ∃ a S1, m = some (.ok a, S1) ∧ k a S1 = some (r, S') := by
  match m, h with
  | some (.err c d, S), h =>
    simp at h
    obtain ⟨h1, h2⟩ := h
    subst h1 h2
    exact .inl ⟨c, d, rfl, rfl⟩
  | some (.ok a, S), h => exact .inr ⟨a, S, rfl, h⟩

section
variable {G : Wd} {X : Cx} {W : WX} {ρ : Rho} {S : Store} {a b c e : Expr} {es : List Expr} {pos : Pos}
/-- after a first expression -/
theorem EvE.bind {m : M D} {k : D → Store → M D} (ha : EvE G X W a ρ S m) {r : R D} {S' : Store} (h : bnd m k = some (r, S')) {σ : L2.St} {H : Hp} {F : Hp} {A : List Addr} (h0 : S0 G F A H S) (hs : Sl G F A σ ρ) {Q : VK}
    (he : ∀ c d, r = .err c d → ErrP G W F A σ S' c d) {Q2 : VK}
    (hk : ∀ x S1, m = some (.ok x, S1) → k x S1 = some (r, S') → ∀ v F1 A1 H1, S0 G F1 A1 H1 S1 → Gr F A F1 A1 → Sl G F1 A1 σ ρ → IsD G F1 A1 x v → Q2 v H1) : SmE X a σ H Q2 := by
  rcases bnd_some h with ⟨c, d, e1, e2⟩ | ⟨x, S1, e1, e2⟩
  · exact ha _ _ e1 σ H F A h0 hs Q2 (he c d e2)
  · exact ha _ _ e1 σ H F A h0 hs Q2 fun v F1 A1 H1 q0 g q1 => hk x S1 e1 e2 v F1 A1 H1 q0 g (hs.gr g) q1
theorem PostE.err {G : Wd} {W : WX} {F : Hp} {A : List Addr} {σ : L2.St} {S' : Store} {Q : VK} {r : R D} (h : PostE G W F A σ S' Q r) : ∀ c d, r = .err c d → ErrP G W F A σ S' c d := by
  intro c d e
  subst e
  exact h
theorem PostA.err {G : Wd} {W : WX} {F : Hp} {A : List Addr} {σ : L2.St} {S' : Store} {Q : List V → Hp → Prop} {r : R (List D)} (h : PostA G W F A σ S' Q r) : ∀ c d, r = .err c d → ErrP G W F A σ S' c d := by
  intro c d e
  subst e
  exact h
theorem PostT.err {G : Wd} {W : WX} {F : Hp} {A : List Addr} {σ : L2.St} {S' : Store} {Q : Bool → Hp → Prop} {r : R Bool} (h : PostT G W F A σ S' Q r) : ∀ c d, r = .err c d → ErrP G W F A σ S' c d := by
  intro c d e
  subst e
  exact h

/-! ### names, constants -/
def varD (i : Nat) (ρ : Rho) (S : Store) : M D := match ρ[i]? with
  | some (some d) => pur d S
  | _ => none
theorem ev_var {i : Nat} {x : Str} (hN : X.N[i]? = some x) (hv : Vis X.env.scope x) (hd : (x == ("__debug__" : Str)) = false) (hcd : (x == ("__classdict__" : Str)) = false) : EvE G X W (.Name x pos) ρ S (varD i ρ S) := by
  intro r S' h σ H F A h0 hs Q hq
  unfold varD at h
  split at h
  · rename_i d hd'
    cases h
    obtain ⟨v, h1, h2⟩ := hs.2 i d hd'
    exact SmE.of (pe_var hN hv hd hcd) ⟨v, h1, hq v F A H h0 .refl h2⟩
  · cases h
theorem ev_int {i : Int} {j : Nat} : EvE G X W (.Constant (.int i) j pos) ρ S (pur (.int i) S) := by
  intro r S' h σ H F A h0 hs Q hq
  cases h
  exact SmE.of pe_int (hq _ F A H h0 .refl (by simp only [IsD]))
theorem ev_bl {i : Bool} {j : Nat} : EvE G X W (.Constant (.bool i) j pos) ρ S (pur (.bl i) S) := by
  intro r S' h σ H F A h0 hs Q hq
  cases h
  exact SmE.of pe_bl (hq _ F A H h0 .refl (by simp only [IsD]))
theorem ev_non {j : Nat} : EvE G X W (.Constant .none j pos) ρ S (pur .non S) := by
  intro r S' h σ H F A h0 hs Q hq
  cases h
  exact SmE.of pe_non (hq _ F A H h0 .refl (by simp only [IsD]))
theorem ev_str {x : Str} {j : Nat} : EvE G X W (.Constant (.str x) j pos) ρ S (pur (.str x) S) := by
  intro r S' h σ H F A h0 hs Q hq
  cases h
  exact SmE.of pe_str (hq _ F A H h0 .refl (by simp only [IsD]))
/-- a module's constant -/
theorem ev_glob {x : Str} {d : D} {u : Value} {v : V} (hg : Gl X x) (hm : X.mg x = some u) (rv : RelV v u) (hd : ∀ F A, IsD G F A d v) (hdb : (x == ("__debug__" : Str)) = false) : EvE G X W (.Name x pos) ρ S (pur d S) := by
  intro r S' h σ H F A h0 hs Q hq
  cases h
  exact SmE.of (pe_glob hg hm rv hdb) (hq _ F A H h0 .refl (hd F A))

/-! ### lists of expressions -/
theorem ea_nil : EvA G X W [] ρ S (pur [] S) := by
  intro r S' h σ H F A h0 hs Q hq
  cases h
  exact SmA.of pa_nil (hq _ F A H h0 .refl (isDs_nil.mpr rfl))
theorem ea_cons {ma : M D} {mb : Store → M (List D)} (ha : EvE G X W e ρ S ma) (hb : ∀ S1, EvA G X W es ρ S1 (mb S1)) (hst : starEach (e :: es) X.env = (false, eval e X.env) :: starEach es X.env) :
    EvA G X W (e :: es) ρ S (bnd ma fun x S1 => bnd (mb S1) fun xs S2 => pur (x :: xs) S2) := by
  intro r S' h σ H F A h0 hs Q hq
  refine SmA.of (pa_cons smE smA hst) ?_
  show SmE X e σ H _
  rcases bnd_some h with ⟨c, d, e1, e2⟩ | ⟨x, S1, e1, e2⟩
  · subst e2
    exact ha _ _ e1 σ H F A h0 hs _ hq
  · refine ha _ _ e1 σ H F A h0 hs _ fun v F1 A1 H1 q0 g q1 => ?_
    show SmA X es σ H1 _
    rcases bnd_some e2 with ⟨c, d, e3, e4⟩ | ⟨xs, S2, e3, e4⟩
    · subst e4
      exact hb S1 _ _ e3 σ H1 F1 A1 q0 (hs.gr g) _ (ErrP.gr g hq)
    · cases e4
      exact hb S1 _ _ e3 σ H1 F1 A1 q0 (hs.gr g) _ fun vs F2 A2 H2 q2 g2 q3 => hq _ F2 A2 H2 q2 (g.trans g2) (isDs_cons.mpr ⟨v, vs, rfl, q1.gr g2, q3⟩)

/-! ### displays -/
def fits (n : Nat) : Bool := Nat.ble n 16777216
theorem fits_of {n : Nat} (h : fits n = true) : n ≤ sizeLine := by
  rw [sizeLine_eq]
  exact Nat.le_of_ble_eq_true h
theorem fits_to {n : Nat} (h : n ≤ 16777216) : fits n = true := Nat.ble_eq_true_of_le h
def tupD (ds : List D) (S : Store) : M D := if fits ds.length then pur (.tup ds) S else none
def lstD (ds : List D) (S : Store) : M D := if fits ds.length then pur (.lst ds) S else none
def ptrD (ds : List D) (S : Store) : M D := if fits ds.length then pur (.ptr S.length) (S ++ [.lst ds]) else none
theorem tup_end {F : Hp} {A : List Addr} {H : Hp} {ds : List D} {vs : List V} {Q : VK} {p : Addr} (h0 : S0 G F A H S) (hv : IsDs G F A ds vs) (n : H p = none)
    (hq : ∀ v F' A' H', S0 G F' A' H' S → Gr F A F' A' → IsD G F' A' (.tup ds) v → Q v H') : Q (.ref p) (upd H p (.tup vs)) := by
  obtain ⟨h1, g⟩ := h0.frz (o := .tup vs) n (by intro ps z; cases z)
  refine hq _ _ _ _ h1 g ?_
  simp only [IsD]
  exact ⟨p, vs, rfl, SqT.of upd_same, hv.gr g⟩
theorem lst_end {F : Hp} {A : List Addr} {H : Hp} {ds : List D} {vs : List V} {Q : VK} {p : Addr} (h0 : S0 G F A H S) (hv : IsDs G F A ds vs) (n : H p = none)
    (hq : ∀ v F' A' H', S0 G F' A' H' S → Gr F A F' A' → IsD G F' A' (.lst ds) v → Q v H') : Q (.ref p) (upd H p (.lst vs)) := by
  obtain ⟨h1, g⟩ := h0.frz (o := .lst vs) n (by intro ps z; cases z)
  refine hq _ _ _ _ h1 g ?_
  simp only [IsD]
  exact ⟨p, vs, rfl, upd_same, hv.gr g⟩
theorem ptr_end {F : Hp} {A : List Addr} {H : Hp} {ds : List D} {vs : List V} {Q : VK} {p : Addr} (h0 : S0 G F A H S) (hv : IsDs G F A ds vs) (n : H p = none)
    (hq : ∀ v F' A' H', S0 G F' A' H' (S ++ [.lst ds]) → Gr F A F' A' → IsD G F' A' (.ptr S.length) v → Q v H') : Q (.ref p) (upd H p (.lst vs)) := by
  have g0 : Gr F A F (A ++ [p]) := ⟨fun _ _ e => e, [p], rfl⟩
  obtain ⟨h1, g⟩ := h0.new (o := .lst ds) (u := .lst vs) n ⟨vs, rfl, hv.gr g0⟩
  refine hq _ _ _ _ h1 g ?_
  simp only [IsD]
  exact ⟨p, by rw [← h0.len]; simp, rfl⟩
theorem ev_tup {k : Nat} {m : M (List D)} (h : EvA G X W es ρ S m) : EvE G X W (.Tuple es k pos) ρ S (bnd m tupD) := by
  intro r S' hr σ H F A h0 hs Q hq
  refine SmE.of (pe_tup smA) ?_
  show SmA X es σ H _
  rcases bnd_some hr with ⟨c, d, e1, e2⟩ | ⟨ds, S1, e1, e2⟩
  · subst e2
    exact h _ _ e1 σ H F A h0 hs _ hq
  · unfold tupD at e2
    split at e2
    · rename_i hf
      cases e2
      exact h _ _ e1 σ H F A h0 hs _ fun vs F1 A1 H1 q0 g q1 => ⟨by rw [q1.len]; exact fits_of hf, fun p hp => tup_end q0 q1 hp fun v F' A' H' a b c => hq v F' A' H' a (g.trans b) c⟩
    · cases e2
theorem ev_lst {m : M (List D)} (h : EvA G X W es ρ S m) : EvE G X W (.List es pos) ρ S (bnd m lstD) := by
  intro r S' hr σ H F A h0 hs Q hq
  refine SmE.of (pe_lst smA) ?_
  show SmA X es σ H _
  rcases bnd_some hr with ⟨c, d, e1, e2⟩ | ⟨ds, S1, e1, e2⟩
  · subst e2
    exact h _ _ e1 σ H F A h0 hs _ hq
  · unfold lstD at e2
    split at e2
    · rename_i hf
      cases e2
      exact h _ _ e1 σ H F A h0 hs _ fun vs F1 A1 H1 q0 g q1 => ⟨by rw [q1.len]; exact fits_of hf, fun p hp => lst_end q0 q1 hp fun v F' A' H' a b c => hq v F' A' H' a (g.trans b) c⟩
    · cases e2
theorem ev_ptr {m : M (List D)} (h : EvA G X W es ρ S m) : EvE G X W (.List es pos) ρ S (bnd m ptrD) := by
  intro r S' hr σ H F A h0 hs Q hq
  refine SmE.of (pe_lst smA) ?_
  show SmA X es σ H _
  rcases bnd_some hr with ⟨c, d, e1, e2⟩ | ⟨ds, S1, e1, e2⟩
  · subst e2
    exact h _ _ e1 σ H F A h0 hs _ hq
  · unfold ptrD at e2
    split at e2
    · rename_i hf
      cases e2
      exact h _ _ e1 σ H F A h0 hs _ fun vs F1 A1 H1 q0 g q1 => ⟨by rw [q1.len]; exact fits_of hf, fun p hp => ptr_end q0 q1 hp fun v F' A' H' a b c => hq v F' A' H' a (g.trans b) c⟩
    · cases e2

/-! ### operators -/
theorem ev_op {op : Operator} {ma : M D} {mb : Store → M D} {f : D → D → Store → Option (D × Store)} (ha : EvE G X W a ρ S ma) (hb : ∀ S1, EvE G X W b ρ S1 (mb S1)) (ho : ∀ x y S2, OpX G X (binaryOp op) x y S2 (f x y S2)) :
    EvE G X W (.BinOp a op b pos) ρ S (bnd ma fun x S1 => bnd (mb S1) fun y S2 => lft (f x y S2)) := by
  intro r S' h σ H F A h0 hs Q hq
  refine SmE.of (pe_op smO smE smE) ?_
  show SmE X a σ H _
  refine ha.bind h h0 hs (Q := Q) hq.err fun x S1 e1 e2 v F1 A1 H1 q0 g s1 q1 => ?_
  show SmE X b σ H1 _
  refine (hb S1).bind e2 q0 s1 (Q := Q) (fun c d z => ErrP.gr g (hq.err c d z)) fun y S2 e3 e4 w F2 A2 H2 q2 g2 s2 q3 => ?_
  cases hf : f x y S2 with
  | none => rw [hf] at e4; cases e4
  | some p =>
    obtain ⟨d, S3⟩ := p
    rw [hf] at e4
    cases e4
    exact ho x y S2 d S' hf H2 F2 A2 v w q2 (q1.gr g2) q3 Q fun z F' A' H' a b c => hq z F' A' H' a ((g.trans g2).trans b) c
theorem ev_cmp {op : CmpOp} {ma : M D} {mb : Store → M D} {f : D → D → Store → Option (D × Store)} (ha : EvE G X W a ρ S ma) (hb : ∀ S1, EvE G X W b ρ S1 (mb S1)) (ho : ∀ x y S2, OpX G X (compareOp op) x y S2 (f x y S2)) (hm : behindInMarks op b = false) :
    EvE G X W (.Compare a [op] [b] pos) ρ S (bnd ma fun x S1 => bnd (mb S1) fun y S2 => lft (f x y S2)) := by
  intro r S' h σ H F A h0 hs Q hq
  refine SmE.of (pe_cmpR smO smE smE hm) ?_
  show SmE X a σ H _
  refine ha.bind h h0 hs (Q := Q) hq.err fun x S1 e1 e2 v F1 A1 H1 q0 g s1 q1 => ?_
  show SmE X b σ H1 _
  refine (hb S1).bind e2 q0 s1 (Q := Q) (fun c d z => ErrP.gr g (hq.err c d z)) fun y S2 e3 e4 w F2 A2 H2 q2 g2 s2 q3 => ?_
  cases hf : f x y S2 with
  | none => rw [hf] at e4; cases e4
  | some p =>
    obtain ⟨d, S3⟩ := p
    rw [hf] at e4
    cases e4
    exact ho x y S2 d S' hf H2 F2 A2 v w q2 (q1.gr g2) q3 Q fun z F' A' H' a b c => hq z F' A' H' a ((g.trans g2).trans b) c
end
end Z


set_option Elab.async false
set_option linter.all false
set_option maxRecDepth 100000
set_option maxHeartbeats 4000000
namespace Z
open PySem PySem.Spec PyProof.Rows L2
open LamX (Tabs TabS ExtN CodeO)

/-! ## operations on data -/
/-- the items of a list -/
def seqD (S : Store) : D → Option (List D)
  | .lst ds => some ds
  | .ptr k => match S[k]? with
    | some (.lst ds) => some ds
    | _ => none
  | _ => none
/-- the items of a list or a tuple -/
def itsD (S : Store) : D → Option (List D)
  | .lst ds => some ds
  | .scr ns => some (ns.map .int)
  | .tup ds => some ds
  | .ptr k => match S[k]? with
    | some (.lst ds) => some ds
    | _ => none
  | _ => none
/-- a new list: frozen, or of the store -/
def mk (m : Bool) (ds : List D) (S : Store) : Option (D × Store) := if fits ds.length then (if m then some (.ptr S.length, S ++ [.lst ds]) else some (.lst ds, S)) else none

section
variable {G : Wd} {X : Cx} {W : WX} {ρ : Rho} {S : Store} {F : Hp} {A : List Addr} {H : Hp} {x y : D} {v w : V}
theorem seq_at (h0 : S0 G F A H S) (hx : IsD G F A x v) {ds : List D} (h : seqD S x = some ds) : ∃ p vs, v = .ref p ∧ H p = some (.lst vs) ∧ IsDs G F A ds vs := by
  cases x with
  | lst xs =>
    cases h
    simp only [IsD] at hx
    obtain ⟨p, vs, e, h1, h2⟩ := hx
    exact ⟨p, vs, e, h0.sub _ _ h1, h2⟩
  | ptr k =>
    simp only [IsD] at hx
    obtain ⟨p, e, h1⟩ := hx
    simp only [seqD] at h
    split at h
    · rename_i ds' hk
      cases h
      obtain ⟨u, h2, vs, e2, h3⟩ := h0.obj k p _ e hk
      subst e2
      exact ⟨p, vs, h1, h2, h3⟩
    · cases h
  | _ => simp [seqD] at h
theorem isDs_ints {G : Bd} {F : Hp} {A : List Addr} : ∀ l : List Int, IsDs G F A (l.map D.int) (l.map V.int)
  | [] => isDs_nil.mpr rfl
  | z :: l => isDs_cons.mpr ⟨_, _, rfl, by simp only [IsD], isDs_ints l⟩
theorem its_at (h0 : S0 G F A H S) (hx : IsD G F A x v) {ds : List D} (h : itsD S x = some ds) : ∃ p vs, v = .ref p ∧ (SqL G.K H p vs ∨ SqT G.K H p vs) ∧ IsDs G F A ds vs := by
  cases x with
  | lst xs =>
    obtain ⟨p, vs, a, b, c⟩ := seq_at h0 hx (ds := ds) (by simpa [itsD, seqD] using h)
    exact ⟨p, vs, a, .inl (SqL.of b), c⟩
  | tup xs =>
    cases h
    simp only [IsD] at hx
    obtain ⟨p, vs, e, h1, h2⟩ := hx
    have g : Gr F A H A := ⟨h0.sub, [], by simp⟩
    exact ⟨p, vs, e, .inr (g.sqt h1), h2⟩
  | ptr k =>
    obtain ⟨p, vs, a, b, c⟩ := seq_at h0 hx (ds := ds) (by simpa [itsD, seqD] using h)
    exact ⟨p, vs, a, .inl (SqL.of b), c⟩
  | scr ns =>
    cases h
    simp only [IsD] at hx
    obtain ⟨p, e, h1⟩ := hx
    have g : Gr F A H A := ⟨h0.sub, [], by simp⟩
    exact ⟨p, _, e, .inl (g.sql h1), isDs_ints ns⟩
  | _ => simp [itsD] at h
/-- a new list stands -/
theorem mk_end {m : Bool} {ds : List D} {vs : List V} {d : D} {S' : Store} (h : mk m ds S = some (d, S')) (h0 : S0 G F A H S) (hv : IsDs G F A ds vs) {Q : VK}
    (hq : ∀ v F' A' H', S0 G F' A' H' S' → Gr F A F' A' → IsD G F' A' d v → Q v H') : vs.length ≤ sizeLine ∧ ∀ p, H p = none → Q (.ref p) (upd H p (.lst vs)) := by
  unfold mk at h
  split at h
  · rename_i hf
    refine ⟨by rw [hv.len]; exact fits_of hf, fun p n => ?_⟩
    split at h
    · cases h
      exact ptr_end h0 hv n hq
    · cases h
      exact lst_end h0 hv n hq
  · cases h
theorem mk_end' {m : Bool} {ds : List D} {vs : List V} {d : D} {S' : Store} (h : mk m ds S = some (d, S')) (h0 : S0 G F A H S) (hv : IsDs G F A ds vs) {Q : VK}
    (hq : ∀ v F' A' H', S0 G F' A' H' S' → Gr F A F' A' → IsD G F' A' d v → Q v H') {p : Addr} (n : H p = none) : Q (.ref p) (upd H p (.lst vs)) := (mk_end h h0 hv hq).2 p n
theorem IsDs.rep {ds : List D} {vs : List V} (h : IsDs G F A ds vs) : ∀ k : Nat, IsDs G F A (List.replicate k ds).flatten (List.replicate k vs).flatten
  | 0 => by simp [IsDs]
  | k + 1 => by
    rw [List.replicate_succ, List.replicate_succ, List.flatten_cons, List.flatten_cons]
    exact h.append (IsDs.rep h k)
theorem isD_int {G : Bd} {F : Hp} {A : List Addr} {i : Int} {v : V} : IsD G F A (.int i) v ↔ v = .int i := by simp only [IsD]
theorem isD_str {G : Bd} {F : Hp} {A : List Addr} {i : Str} {v : V} : IsD G F A (.str i) v ↔ v = .str i := by simp only [IsD]
theorem isD_bl {G : Bd} {F : Hp} {A : List Addr} {i : Bool} {v : V} : IsD G F A (.bl i) v ↔ v = .bl i := by simp only [IsD]
theorem isD_non {G : Bd} {F : Hp} {A : List Addr} {v : V} : IsD G F A .non v ↔ v = .non := by simp only [IsD]
theorem isD_tup {G : Bd} {F : Hp} {A : List Addr} {ds : List D} {v : V} : IsD G F A (.tup ds) v ↔ ∃ p vs, v = .ref p ∧ SqT G.K F p vs ∧ IsDs G F A ds vs := by simp only [IsD]
theorem isD_lst {G : Bd} {F : Hp} {A : List Addr} {ds : List D} {v : V} : IsD G F A (.lst ds) v ↔ ∃ p vs, v = .ref p ∧ F p = some (.lst vs) ∧ IsDs G F A ds vs := by simp only [IsD]
end

def mulOk (i j : Int) : Bool := decide (i.natAbs < 2 ^ 64) || (decide (j.natAbs < 2 ^ 64) || decide (i.natAbs.log2 + j.natAbs.log2 < 1000000))
theorem mulOk_ok {i j : Int} (h : mulOk i j = true) : IntMulOk i j := by
  unfold mulOk at h
  simp only [Bool.or_eq_true, decide_eq_true_eq] at h
  rcases h with h | h | h
  · exact CMul.ok (.inl (by omega))
  · exact CMul.ok (.inr (by omega))
  · exact CMulW.ok h
theorem op_mulZ {X : Cx} : OpR X (binaryOp .Mult) (rI IntMulOk fun i j => .int (i * j)) := opI fun _ _ _ _ _ _ _ hc q => mul_int q hc
theorem op_fdivZ {X : Cx} : OpR X (binaryOp .FloorDiv) (rI (fun _ j => j ≠ 0 ∧ j.natAbs.log2 < 9000) fun i j => .int (i.fdiv j)) := opI fun _ _ _ _ _ _ _ hc q => floordiv_int hc.1 q (.inl (PyProof.noPylong_of_log2 hc.2))

def addD (m : Bool) (x y : D) (S : Store) : Option (D × Store) := match x, y with
  | .int i, .int j => some (.int (i + j), S)
  | .str a, .str b => if fits (a.length + b.length) then some (.str (a ++ b), S) else none
  | .tup xs, .tup ys => if fits (xs.length + ys.length) then some (.tup (xs ++ ys), S) else none
  | x, y => match seqD S x, seqD S y with
    | some xs, some ys => mk m (xs ++ ys) S
    | _, _ => none
def subD (x y : D) (S : Store) : Option (D × Store) := match x, y with
  | .int i, .int j => some (.int (i - j), S)
  | _, _ => none
def mulD (m : Bool) (x y : D) (S : Store) : Option (D × Store) := match x, y with
  | .int i, .int j => if mulOk i j then some (.int (i * j), S) else none
  | .tup xs, .int k => if !xs.isEmpty && (decide (2 ≤ k) && (decide (k ≤ 1000) && decide (xs.length ≤ 1000))) then some (.tup (List.replicate k.toNat xs).flatten, S) else none
  | x, .int k => match seqD S x with
    | some xs => if decide (-(2 ^ 63) ≤ k) && decide (k < 2 ^ 63) then mk m (List.replicate k.toNat xs).flatten S else none
    | _ => none
  | _, _ => none
def divD (x y : D) (S : Store) : Option (D × Store) := match x, y with
  | .int i, .int j => if j ≠ 0 ∧ j.natAbs.log2 < 9000 then some (.int (i.fdiv j), S) else none
  | _, _ => none
def modD (x y : D) (S : Store) : Option (D × Store) := match x, y with
  | .int i, .int j => if j ≠ 0 then some (.int (i.fmod j), S) else none
  | _, _ => none
def powD (x y : D) (S : Store) : Option (D × Store) := match x, y with
  | .int i, .int j => if 0 ≤ j ∧ j ≤ 1000000 ∧ i.natAbs < 2 ^ 64 then some (.int (i ^ j.toNat), S) else none
  | _, _ => none
def binD (m : Bool) (op : Operator) (x y : D) (S : Store) : Option (D × Store) := match op with
  | .Add => addD m x y S
  | .Sub => subD x y S
  | .Mult => mulD m x y S
  | .FloorDiv => divD x y S
  | .Mod => modD x y S
  | .Pow => powD x y S
  | _ => none

section
variable {G : Wd} {X : Cx} {S : Store} {x y : D} {m : Bool}
theorem add_seq (xs ys : List D) (hx : seqD S x = some xs) (hy : seqD S y = some ys) : OpX G X (binaryOp .Add) x y S (mk m (xs ++ ys) S) := by
  intro d S' h H F A v w h0 h1 h2 Q hq
  obtain ⟨p, vs, rfl, a1, a2⟩ := seq_at h0 h1 hx
  obtain ⟨q, ws, rfl, b1, b2⟩ := seq_at h0 h2 hy
  obtain ⟨hl, he⟩ := mk_end h h0 (a2.append b2) hq
  exact SmO.of op_cat ⟨p, q, vs, ws, rfl, rfl, a1, b1, by simpa using hl, he⟩
theorem ox_add (hK : X.K = G.K) : OpX G X (binaryOp .Add) x y S (addD m x y S) := by
  unfold addD
  split
  · intro d S' h H F A v w h0 h1 h2 Q hq
    cases h
    rw [isD_int] at h1 h2
    subst h1 h2
    exact SmO.of op_add ⟨_, _, rfl, rfl, hq _ F A H h0 .refl (isD_int.mpr rfl)⟩
  · intro d S' h H F A v w h0 h1 h2 Q hq
    split at h
    · rename_i hf
      cases h
      rw [isD_str] at h1 h2
      subst h1 h2
      exact SmO.of op_add_str ⟨_, _, rfl, rfl, fits_of hf, hq _ F A H h0 .refl (isD_str.mpr rfl)⟩
    · cases h
  · rename_i xs ys
    intro d S' h H F A v w h0 h1 h2 Q hq
    split at h
    · rename_i hf
      cases h
      have h2' := h2
      have h1' := h1
      rw [isD_tup] at h1 h2
      obtain ⟨p, vs, rfl, a1, a2⟩ := h1
      obtain ⟨q, ws, rfl, b1, b2⟩ := h2
      have gH : Gr F A H A := ⟨h0.sub, [], by simp⟩
      refine SmO.of op_catA ⟨p, q, vs, ws, rfl, rfl, by rw [hK]; exact gH.sqt a1, by rw [hK]; exact gH.sqt b1, by rw [a2.len, b2.len]; exact fits_of hf, fun e => ?_, fun _ e => ?_, fun _ _ r n => tup_end h0 (a2.append b2) n hq⟩
      · have : xs = [] := by
          have := a2.len
          rw [e] at this
          exact List.eq_nil_of_length_eq_zero this.symm
        subst this
        exact hq _ F A H h0 .refl h2'
      · have : ys = [] := by
          have := b2.len
          rw [e] at this
          exact List.eq_nil_of_length_eq_zero this.symm
        subst this
        rw [List.append_nil] at hq
        exact hq _ F A H h0 .refl h1'
    · cases h
  · split
    · rename_i xs ys e1 e2
      exact add_seq xs ys e1 e2
    · intro d S' h
      cases h
theorem ox_sub : OpX G X (binaryOp .Sub) x y S (subD x y S) := by
  unfold subD
  split
  · intro d S' h H F A v w h0 h1 h2 Q hq
    cases h
    rw [isD_int] at h1 h2
    subst h1 h2
    exact SmO.of op_sub ⟨_, _, rfl, rfl, hq _ F A H h0 .refl (isD_int.mpr rfl)⟩
  · intro d S' h
    cases h
theorem ox_mul (hK : X.K = G.K) : OpX G X (binaryOp .Mult) x y S (mulD m x y S) := by
  unfold mulD
  split
  · intro d S' h H F A v w h0 h1 h2 Q hq
    split at h
    · rename_i hf
      cases h
      rw [isD_int] at h1 h2
      subst h1 h2
      exact SmO.of op_mulZ ⟨_, _, rfl, rfl, mulOk_ok hf, hq _ F A H h0 .refl (isD_int.mpr rfl)⟩
    · cases h
  · rename_i xs k
    intro d S' h H F A v w h0 h1 h2 Q hq
    split at h
    · rename_i hf
      cases h
      simp only [Bool.and_eq_true, decide_eq_true_eq, Bool.not_eq_true', List.isEmpty_eq_false_iff] at hf
      obtain ⟨f1, f2, f3, f4⟩ := hf
      rw [isD_tup] at h1
      rw [isD_int] at h2
      obtain ⟨p, vs, rfl, a1, a2⟩ := h1
      subst h2
      have gH : Gr F A H A := ⟨h0.sub, [], by simp⟩
      have hl := a2.len
      refine SmO.of op_repT ⟨p, k, vs, rfl, rfl, by rw [hK]; exact gH.sqt a1, fun e => ?_, f2, f3, by omega, fun r n => tup_end h0 (a2.rep _) n hq⟩
      rw [e] at hl
      exact f1 (List.eq_nil_of_length_eq_zero hl.symm)
    · cases h
  · rename_i k hne _
    split
    · rename_i xs e
      intro d S' h H F A v w h0 h1 h2 Q hq
      split at h
      · rename_i hf
        simp only [Bool.and_eq_true, decide_eq_true_eq] at hf
        rw [isD_int] at h2
        subst h2
        obtain ⟨p, vs, rfl, a1, a2⟩ := seq_at h0 h1 e
        obtain ⟨hl, he⟩ := mk_end h h0 (a2.rep k.toNat) hq
        refine SmO.of op_rep ⟨p, k, vs, rfl, rfl, a1, hf.1, hf.2, ?_, he⟩
        rw [PyProof.Rows.lm_len_rep_flat] at hl
        rw [Nat.mul_comm]
        exact hl
      · cases h
    · intro d S' h
      cases h
  · intro d S' h
    cases h
theorem ox_div : OpX G X (binaryOp .FloorDiv) x y S (divD x y S) := by
  unfold divD
  split
  · intro d S' h H F A v w h0 h1 h2 Q hq
    split at h
    · rename_i hf
      cases h
      rw [isD_int] at h1 h2
      subst h1 h2
      exact SmO.of op_fdivZ ⟨_, _, rfl, rfl, hf, hq _ F A H h0 .refl (isD_int.mpr rfl)⟩
    · cases h
  · intro d S' h
    cases h
theorem ox_mod : OpX G X (binaryOp .Mod) x y S (modD x y S) := by
  unfold modD
  split
  · intro d S' h H F A v w h0 h1 h2 Q hq
    split at h
    · rename_i hf
      cases h
      rw [isD_int] at h1 h2
      subst h1 h2
      exact SmO.of op_modN ⟨_, _, rfl, rfl, hf, hq _ F A H h0 .refl (isD_int.mpr rfl)⟩
    · cases h
  · intro d S' h
    cases h
theorem ox_pow : OpX G X (binaryOp .Pow) x y S (powD x y S) := by
  unfold powD
  split
  · intro d S' h H F A v w h0 h1 h2 Q hq
    split at h
    · rename_i hf
      cases h
      rw [isD_int] at h1 h2
      subst h1 h2
      exact SmO.of op_pow ⟨_, _, rfl, rfl, hf, hq _ F A H h0 .refl (isD_int.mpr rfl)⟩
    · cases h
  · intro d S' h
    cases h
theorem ox_bin {op : Operator} (hK : X.K = G.K) : OpX G X (binaryOp op) x y S (binD m op x y S) := by
  unfold binD
  split
  · exact ox_add hK
  · exact ox_sub
  · exact ox_mul hK
  · exact ox_div
  · exact ox_mod
  · exact ox_pow
  · intro d S' h
    cases h
end

/-! ### comparisons -/
mutual
/-- plain data, lists of the store read out n deep -/
def pyD (S : Store) : Nat → D → Option PyData
  | _, .non => some .none
  | _, .bl b => some (.bool b)
  | _, .int i => some (.int i)
  | _, .str x => some (.str x)
  | n, .tup ds => (pyDs S n ds).map .tuple
  | n, .lst ds => (pyDs S n ds).map .list
  | n + 1, .ptr k => match S[k]? with
    | some (.lst ds) => (pyFl S n ds).map .list
    | _ => none
  | _, _ => none
termination_by n d => (n, sizeOf d)
def pyDs (S : Store) : Nat → List D → Option (List PyData)
  | _, [] => some []
  | n, d :: ds => match pyD S n d, pyDs S n ds with
    | some p, some ps => some (p :: ps)
    | _, _ => none
termination_by n ds => (n, sizeOf ds)
def pyFl (S : Store) (n : Nat) (ds : List D) : Option (List PyData) := pyDs S n ds
termination_by (n + 1, 0)
end
section
variable {G : Wd} {X : Cx} {S : Store} {F : Hp} {A : List Addr} {H : Hp}
mutual
theorem pyD_ok (h0 : S0 G F A H S) : ∀ (n : Nat) (d : D) (v : V) (p : PyData), pyD S n d = some p → IsD G F A d v → Dp G.K H v p
  | n, .non, v, p, h, hv => by
    simp only [pyD, Option.some.injEq] at h
    subst h
    rw [isD_non] at hv
    subst hv
    exact .non
  | n, .bl b, v, p, h, hv => by
    simp only [pyD, Option.some.injEq] at h
    subst h
    rw [isD_bl] at hv
    subst hv
    exact .bl b
  | n, .int b, v, p, h, hv => by
    simp only [pyD, Option.some.injEq] at h
    subst h
    rw [isD_int] at hv
    subst hv
    exact .int b
  | n, .str b, v, p, h, hv => by
    simp only [pyD, Option.some.injEq] at h
    subst h
    rw [isD_str] at hv
    subst hv
    exact .str b
  | n, .tup ds, v, p, h, hv => by
    simp only [pyD, Option.map_eq_some_iff] at h
    obtain ⟨ps, h1, rfl⟩ := h
    rw [isD_tup] at hv
    obtain ⟨q, vs, rfl, a1, a2⟩ := hv
    have gH : Gr F A H A := ⟨h0.sub, [], by simp⟩
    exact .tup (gH.sqt a1) (pyDs_ok h0 n ds vs ps h1 a2)
  | n, .lst ds, v, p, h, hv => by
    simp only [pyD, Option.map_eq_some_iff] at h
    obtain ⟨ps, h1, rfl⟩ := h
    rw [isD_lst] at hv
    obtain ⟨q, vs, rfl, a1, a2⟩ := hv
    exact .lst (SqL.of (h0.sub _ _ a1)) (pyDs_ok h0 n ds vs ps h1 a2)
  | n + 1, .ptr k, v, p, h, hv => by
    simp only [pyD] at h
    split at h
    · rename_i ds hk
      simp only [pyFl, Option.map_eq_some_iff] at h
      obtain ⟨ps, h1, rfl⟩ := h
      obtain ⟨q, vs, rfl, a1, a2⟩ := seq_at h0 hv (ds := ds) (by simp [seqD, hk])
      exact .lst (SqL.of a1) (pyDs_ok h0 n ds vs ps h1 a2)
    · cases h
  | 0, .ptr k, v, p, h, hv => by simp [pyD] at h
  | n, .fn f, v, p, h, hv => by simp [pyD] at h
  | n, .scr f, v, p, h, hv => by simp [pyD] at h
termination_by n d => (n, sizeOf d)
theorem pyDs_ok (h0 : S0 G F A H S) : ∀ (n : Nat) (ds : List D) (vs : List V) (ps : List PyData), pyDs S n ds = some ps → IsDs G F A ds vs → DpAll G.K H vs ps
  | n, [], vs, ps, h, hv => by
    simp only [pyDs, Option.some.injEq] at h
    subst h
    rw [isDs_nil] at hv
    subst hv
    exact .nil
  | n, d :: ds, vs, ps, h, hv => by
    obtain ⟨v, ws, rfl, h1, h2⟩ := isDs_cons.mp hv
    simp only [pyDs] at h
    split at h
    · rename_i p ps' e1 e2
      cases h
      exact .cons (pyD_ok h0 n d v p e1 h1) (pyDs_ok h0 n ds ws ps' e2 h2)
    · cases h
termination_by n ds => (n, sizeOf ds)
end
end
/-- == of data -/
def eqO (x y : D) (S : Store) : Option Bool := match pyD S 4 x, pyD S 4 y with
  | some p, some q => if SeqAt.shaped p && SeqAt.shaped q then some (PyData.eqv p q) else none
  | _, _ => none
def flatD : D → Bool
  | .non | .bl _ | .int _ | .str _ => true
  | _ => false
def eqF : D → D → Bool
  | .non, .non => true
  | .bl a, .bl b => a == b
  | .bl a, .int j => (if a then 1 else 0) == j
  | .int i, .bl b => i == (if b then 1 else 0)
  | .int i, .int j => i == j
  | .str x, .str y => decide (x = y)
  | _, _ => false
/-- in: a sign in a text, an item in a list or tuple of plain things -/
def inO (x y : D) (S : Store) : Option Bool := match x, y with
  | .str a, .str z => match a.cps.toList with
    | [c] => some (decide (c ∈ z.cps.toList))
    | _ => none
  | x, y => match itsD S y with
    | some ds => if flatD x && ds.all flatD then some (ds.any fun d => eqF d x) else none
    | none => none
def ltO (x y : D) : Option Bool := match x, y with
  | .int i, .int j => some (decide (i < j))
  | _, _ => none
def leO (x y : D) : Option Bool := match x, y with
  | .int i, .int j => some (decide (i ≤ j))
  | _, _ => none
def isNonD : D → Bool
  | .non => true
  | _ => false
def cmpO (op : CmpOp) (x y : D) (S : Store) : Option Bool := match op with
  | .Eq => eqO x y S
  | .NotEq => (eqO x y S).map (!·)
  | .Lt => ltO x y
  | .LtE => leO x y
  | .Gt => ltO y x
  | .GtE => leO y x
  | .Is => if isNonD y then some (isNonD x) else none
  | .IsNot => if isNonD y then some (!isNonD x) else none
  | .In => inO x y S
  | .NotIn => (inO x y S).map (!·)
def cmpD (op : CmpOp) (x y : D) (S : Store) : Option (D × Store) := (cmpO op x y S).map fun b => (.bl b, S)

section
variable {G : Wd} {X : Cx} {S : Store} {F : Hp} {A : List Addr} {H : Hp} {x y : D}
theorem one_cps {a : Str} {c : Nat} (h : a.cps.toList = [c]) : a = ⟨#[c]⟩ := by
  obtain ⟨l⟩ := a
  have : l = #[c] := by
    apply Array.ext'
    simpa using h
  rw [this]
theorem flat_of {d : D} {v : V} (h : IsD G F A d v) (f : flatD d = true) : flatV v = true := by
  cases d with
  | non => rw [isD_non] at h; subst h; rfl
  | bl b => rw [isD_bl] at h; subst h; rfl
  | int i => rw [isD_int] at h; subst h; rfl
  | str x => rw [isD_str] at h; subst h; rfl
  | _ => cases f
theorem flats_of : ∀ {ds : List D} {vs : List V}, IsDs G F A ds vs → ds.all flatD = true → vs.all flatV = true
  | [], vs, h, f => by rw [isDs_nil] at h; subst h; rfl
  | d :: ds, vs, h, f => by
    obtain ⟨v, ws, rfl, h1, h2⟩ := isDs_cons.mp h
    simp only [List.all_cons, Bool.and_eq_true] at f ⊢
    exact ⟨flat_of h1 f.1, flats_of h2 f.2⟩
theorem eqV_of {d e : D} {v w : V} (h : IsD G F A d v) (k : IsD G F A e w) (f : flatD d = true) (g : flatD e = true) : eqV v w = eqF d e := by
  cases d <;> first | (cases f; done) | skip
  all_goals (cases e <;> first | (cases g; done) | skip)
  all_goals (simp only [isD_non, isD_bl, isD_int, isD_str] at h k; subst h k; first | rfl | simp [eqV, eqF])
theorem any_of {e : D} {w : V} (k : IsD G F A e w) (g : flatD e = true) : ∀ {ds : List D} {vs : List V}, IsDs G F A ds vs → ds.all flatD = true → inV w vs = ds.any fun d => eqF d e
  | [], vs, h, f => by rw [isDs_nil] at h; subst h; rfl
  | d :: ds, vs, h, f => by
    obtain ⟨v, ws, rfl, h1, h2⟩ := isDs_cons.mp h
    simp only [List.all_cons, Bool.and_eq_true] at f
    have := any_of k g h2 f.2
    unfold inV at this ⊢
    simp only [List.any_cons]
    rw [this, eqV_of h1 k f.1 g]
theorem ox_cmp {op : CmpOp} (hK : X.K = G.K) (hu : X.A.units + 64 < cLine) : OpX G X (compareOp op) x y S (cmpD op x y S) := by
  intro d S' h H F A v w h0 h1 h2 Q hq
  simp only [cmpD, Option.map_eq_some_iff, Prod.mk.injEq] at h
  obtain ⟨b, hb, hd, hS⟩ := h
  subst hd hS
  have fin : Q (.bl b) H := hq _ F A H h0 .refl (isD_bl.mpr rfl)
  have eqs : ∀ b', eqO x y S = some b' → ∃ p q, Dp X.K H v p ∧ Dp X.K H w q ∧ SeqAt.shaped p = true ∧ SeqAt.shaped q = true ∧ PyData.eqv p q = b' := by
    intro b' e
    unfold eqO at e
    split at e
    · rename_i p q e1 e2
      split at e
      · rename_i hs
        simp only [Bool.and_eq_true] at hs
        cases e
        rw [hK]
        exact ⟨p, q, pyD_ok h0 4 x v p e1 h1, pyD_ok h0 4 y w q e2 h2, hs.1, hs.2, rfl⟩
      · cases e
    · cases e
  have lts : ∀ b', ltO x y = some b' → ∃ i j, v = .int i ∧ w = .int j ∧ decide (i < j) = b' := by
    intro b' e
    unfold ltO at e
    split at e
    · cases e
      rw [isD_int] at h1 h2
      exact ⟨_, _, h1, h2, rfl⟩
    · cases e
  have les : ∀ b', leO x y = some b' → ∃ i j, v = .int i ∧ w = .int j ∧ decide (i ≤ j) = b' := by
    intro b' e
    unfold leO at e
    split at e
    · cases e
      rw [isD_int] at h1 h2
      exact ⟨_, _, h1, h2, rfl⟩
    · cases e
  have gts : ∀ b', ltO y x = some b' → ∃ i j, v = .int i ∧ w = .int j ∧ decide (j < i) = b' := by
    intro b' e
    unfold ltO at e
    split at e
    · cases e
      rw [isD_int] at h1 h2
      exact ⟨_, _, h1, h2, rfl⟩
    · cases e
  have ges : ∀ b', leO y x = some b' → ∃ i j, v = .int i ∧ w = .int j ∧ decide (j ≤ i) = b' := by
    intro b' e
    unfold leO at e
    split at e
    · cases e
      rw [isD_int] at h1 h2
      exact ⟨_, _, h1, h2, rfl⟩
    · cases e
  have non_of : ∀ {d : D} {v : V}, IsD G F A d v → decide (v = .non) = isNonD d := by
    intro d v hd
    cases d <;> simp only [IsD] at hd <;> first | (subst hd; simp [isNonD]; done) | (obtain ⟨a, e, _⟩ := hd; subst e; simp [isNonD]; done) | (obtain ⟨a, _, e⟩ := hd; subst e; simp [isNonD]; done) | (obtain ⟨p, vs, e, _⟩ := hd; subst e; simp [isNonD]; done)
  have ins : ∀ b', inO x y S = some b' → (∃ c z, v = .str ⟨#[c]⟩ ∧ w = .str z ∧ decide (c ∈ z.cps.toList) = b') ∨ ∃ p xs, w = .ref p ∧ (SqL X.K H p xs ∨ SqT X.K H p xs) ∧ flatV v = true ∧ xs.all flatV = true ∧ inV v xs = b' := by
    intro b' e
    unfold inO at e
    split at e
    · rename_i a z
      split at e
      · rename_i c hc
        cases e
        rw [isD_str] at h1 h2
        rw [one_cps hc] at h1
        exact .inl ⟨c, z, h1, h2, rfl⟩
      · cases e
    · split at e
      · rename_i ds hds
        split at e
        · rename_i hf
          simp only [Bool.and_eq_true] at hf
          cases e
          obtain ⟨p, vs, rfl, a1, a2⟩ := its_at h0 h2 hds
          exact .inr ⟨p, vs, rfl, by rw [hK]; exact a1, flat_of h1 hf.1, flats_of a2 hf.2, any_of h1 hf.1 a2 hf.2⟩
        · cases e
      · cases e
  cases op with
  | Eq =>
    obtain ⟨p, q, a1, a2, a3, a4, a5⟩ := eqs b hb
    exact SmO.of (op_eqD hu) ⟨p, q, a1, a2, a3, a4, by rw [a5]; exact fin⟩
  | NotEq =>
    simp only [cmpO, Option.map_eq_some_iff] at hb
    obtain ⟨b', hb', rfl⟩ := hb
    obtain ⟨p, q, a1, a2, a3, a4, a5⟩ := eqs b' hb'
    exact SmO.of (op_neD hu) ⟨p, q, a1, a2, a3, a4, by rw [a5]; exact fin⟩
  | Lt =>
    obtain ⟨i, j, e1, e2, e3⟩ := lts b hb
    exact SmO.of op_lt ⟨i, j, e1, e2, by subst e3; exact fin⟩
  | LtE =>
    obtain ⟨i, j, e1, e2, e3⟩ := les b hb
    exact SmO.of op_le ⟨i, j, e1, e2, by subst e3; exact fin⟩
  | Gt =>
    obtain ⟨i, j, e1, e2, e3⟩ := gts b hb
    exact SmO.of op_gt ⟨i, j, e1, e2, by subst e3; exact fin⟩
  | GtE =>
    obtain ⟨i, j, e1, e2, e3⟩ := ges b hb
    exact SmO.of op_ge ⟨i, j, e1, e2, by subst e3; exact fin⟩
  | Is =>
    simp only [cmpO] at hb
    split at hb
    · rename_i hn
      cases hb
      have e2 := of_decide_eq_true ((non_of h2).trans hn)
      exact SmO.of op_isN ⟨e2, by rw [non_of h1]; exact fin⟩
    · cases hb
  | IsNot =>
    simp only [cmpO] at hb
    split at hb
    · rename_i hn
      cases hb
      have e2 := of_decide_eq_true ((non_of h2).trans hn)
      exact SmO.of op_notN ⟨e2, by rw [non_of h1]; exact fin⟩
    · cases hb
  | In =>
    rcases ins b hb with ⟨c, z, rfl, rfl, e⟩ | ⟨p, xs, rfl, a1, a2, a3, a4⟩
    · exact SmO.of op_in_sign ⟨c, z, rfl, rfl, by rw [e]; exact fin⟩
    · exact SmO.of op_in_seq ⟨p, xs, rfl, a1, a2, a3, by
        show Q (.bl (if false = true then !inV v xs else inV v xs)) H
        rw [if_neg Bool.false_ne_true, a4]
        exact fin⟩
  | NotIn =>
    simp only [cmpO, Option.map_eq_some_iff] at hb
    obtain ⟨b', hb', rfl⟩ := hb
    rcases ins b' hb' with ⟨c, z, rfl, rfl, e⟩ | ⟨p, xs, rfl, a1, a2, a3, a4⟩
    · exact SmO.of op_notIn_sign ⟨c, z, rfl, rfl, by rw [e]; exact fin⟩
    · exact SmO.of op_notIn_seq ⟨p, xs, rfl, a1, a2, a3, by
        show Q (.bl (if true = true then !inV v xs else inV v xs)) H
        rw [if_pos rfl, a4]
        exact fin⟩
end
end Z


set_option Elab.async false
set_option linter.all false
set_option maxRecDepth 100000
set_option maxHeartbeats 4000000
namespace Z
open PySem PySem.Spec PyProof.Rows L2
open LamX (Tabs TabS ExtN CodeO)

/-! ## tests, choices, indices, slices -/
def SmW (X : Cx) (e : Expr) : TT := fun σ H Q => ∀ whole pins s, Inv X pins σ H s → wpAny (model X.prog X.w) X.A (isTrue e X.env whole) (TP X pins σ Q) X.xe s
theorem smW {X : Cx} {e : Expr} : PW X e (SmW X e) := ⟨fun whole pins s σ H Q I h => h whole pins s I⟩
theorem SmW.of {X : Cx} {e : Expr} {t : TT} (h : PW X e t) {σ : L2.St} {H : Hp} {Q : Bool → Hp → Prop} (q : t σ H Q) : SmW X e σ H Q := fun whole pins s I => h.run whole pins s σ H Q I q
theorem SmW.t {X : Cx} {e : Expr} {σ : L2.St} {H : Hp} {Q : Bool → Hp → Prop} (h : SmW X e σ H Q) : SmT X e σ H Q := fun pins s I => h _ pins s I
def EvW (G : Wd) (X : Cx) (W : WX) (e : Expr) (ρ : Rho) (S : Store) (m : M Bool) : Prop :=
  ∀ r S', m = some (r, S') → ∀ σ H F A, S0 G F A H S → Sl G F A σ ρ → ∀ Q, PostT G W F A σ S' Q r → SmW X e σ H Q
theorem EvW.t {G : Wd} {X : Cx} {W : WX} {e : Expr} {ρ : Rho} {S : Store} {m : M Bool} (h : EvW G X W e ρ S m) : EvT G X W e ρ S m := fun r S' e σ H F A h0 hs Q hq => (h r S' e σ H F A h0 hs Q hq).t
/-- an expression whose test is its value's truth -/
def plainT : Expr → Bool
  | .Name .. | .Call .. | .Subscript .. | .Attribute .. | .Constant .. | .BinOp .. | .List .. | .Tuple .. => true
  | _ => false
theorem plainT_ok {e : Expr} {env : Env} (h : plainT e = true) (whole : Sem Value) : isTrue e env whole = (do let v ← whole; standAt e.pos; holding [v] (truthy v)) := by
  cases e <;> first | rfl | cases h
/-- a value's truth -/
def truD (S : Store) (d : D) : Option Bool := match d with
  | .non => some false
  | .bl b => some b
  | .int i => some (i != 0)
  | .str x => if fits x.length then some ((x.length : Int) != 0) else none
  | d => (itsD S d).map fun ds => !ds.isEmpty
section
variable {G : Wd} {X : Cx} {W : WX} {ρ : Rho} {S : Store} {a b c e : Expr} {es rest : List Expr} {pos : Pos}
theorem tru_at {F : Hp} {A : List Addr} {H : Hp} {d : D} {v : V} {k : Bool} (hK : X.K = G.K) (h0 : S0 G F A H S) (hv : IsD G F A d v) (h : truD S d = some k) : TruV X.K v H k := by
  unfold truD at h
  split at h
  · rw [isD_non] at hv
    subst hv
    cases h
    rfl
  · rw [isD_bl] at hv
    subst hv
    cases h
    rfl
  · rw [isD_int] at hv
    subst hv
    cases h
    rfl
  · rw [isD_str] at hv
    subst hv
    split at h
    · rename_i hf
      cases h
      exact ⟨fits_of hf, rfl⟩
    · cases h
  · simp only [Option.map_eq_some_iff] at h
    obtain ⟨ds, hd, rfl⟩ := h
    obtain ⟨p, vs, rfl, a1, a2⟩ := its_at h0 hv hd
    have el : vs.isEmpty = ds.isEmpty := by
      have := a2.len
      cases vs <;> cases ds <;> simp_all
    rw [hK, ← el]
    rcases a1 with a1 | a1
    · exact .inl ⟨vs, a1, rfl⟩
    · exact .inr (.inl ⟨vs, a1, rfl⟩)
def truM (d : D) (S : Store) : M Bool := match truD S d with
  | some b => pur b S
  | none => none
theorem et_val (hK : X.K = G.K) (hp : plainT e = true) {m : M D} (h : EvE G X W e ρ S m) : EvT G X W e ρ S (bnd m truM) := by
  intro r S' hr σ H F A h0 hs Q hq
  refine SmT.of (pt_truth smE (plainT_ok hp)) ?_
  show SmE X e σ H _
  rcases bnd_some hr with ⟨c, d, e1, e2⟩ | ⟨x, S1, e1, e2⟩
  · subst e2
    exact h _ _ e1 σ H F A h0 hs _ hq
  · refine h _ _ e1 σ H F A h0 hs _ fun v F1 A1 H1 q0 g q1 => ?_
    unfold truM at e2
    split at e2
    · rename_i k hk
      cases e2
      exact ⟨k, tru_at hK q0 q1 hk, hq F1 A1 H1 q0 g⟩
    · cases e2
theorem et_cmp {op : CmpOp} {ma : M D} {mb : Store → M D} {f : D → D → Store → Option Bool} (ha : EvE G X W a ρ S ma) (hb : ∀ S1, EvE G X W b ρ S1 (mb S1))
    (ho : ∀ x y S2, OpX G X (compareOp op) x y S2 ((f x y S2).map fun b => (.bl b, S2))) (hm : behindInMarks op b = false) :
    EvT G X W (.Compare a [op] [b] pos) ρ S (bnd ma fun x S1 => bnd (mb S1) fun y S2 => lft ((f x y S2).map fun k => (k, S2))) := by
  intro r S' h σ H F A h0 hs Q hq
  refine SmT.of (pt_cmpR smO smE smE hm) ?_
  show SmE X a σ H _
  rcases bnd_some h with ⟨c, d, e1, e2⟩ | ⟨x, S1, e1, e2⟩
  · subst e2
    exact ha _ _ e1 σ H F A h0 hs _ hq
  refine ha _ _ e1 σ H F A h0 hs _ fun v F1 A1 H1 q0 g q1 => ?_
  show SmE X b σ H1 _
  rcases bnd_some e2 with ⟨c, d, e3, e4⟩ | ⟨y, S2, e3, e4⟩
  · subst e4
    exact hb S1 _ _ e3 σ H1 F1 A1 q0 (hs.gr g) _ (ErrP.gr g hq)
  refine hb S1 _ _ e3 σ H1 F1 A1 q0 (hs.gr g) _ fun w F2 A2 H2 q2 g2 q3 => ?_
  cases hf : f x y S2 with
  | none => rw [hf] at e4; cases e4
  | some p =>
    rw [hf] at e4
    cases e4
    refine ho x y S' (.bl p) S' (by rw [hf]; rfl) H2 F2 A2 v w q2 (q1.gr g2) q3 _ fun z F' A' H' a b c => ?_
    rw [isD_bl] at c
    exact ⟨p, c, hq F' A' H' a ((g.trans g2).trans b)⟩
def notM (m : M Bool) : M Bool := bnd m fun b S => pur (!b) S
theorem et_not {m : M Bool} (h : EvT G X W e ρ S m) : EvT G X W (.UnaryOp .Not e pos) ρ S (notM m) := by
  intro r S' hr σ H F A h0 hs Q hq
  refine SmT.of (pt_not smT) ?_
  show SmT X e σ H _
  rcases bnd_some hr with ⟨c, d, e1, e2⟩ | ⟨x, S1, e1, e2⟩
  · subst e2
    exact h _ _ e1 σ H F A h0 hs _ hq
  · cases e2
    exact h _ _ e1 σ H F A h0 hs _ fun F1 A1 H1 q0 g => hq F1 A1 H1 q0 g
theorem ew_and1 {m : M Bool} (h : EvT G X W e ρ S m) : EvW G X W (.BoolOp .And [e] pos) ρ S m := fun r S' hr σ H F A h0 hs Q hq => SmW.of (pw_and1 smT) (h r S' hr σ H F A h0 hs Q hq)
theorem ew_or1 {m : M Bool} (h : EvT G X W e ρ S m) : EvW G X W (.BoolOp .Or [e] pos) ρ S m := fun r S' hr σ H F A h0 hs Q hq => SmW.of (pw_or1 smT) (h r S' hr σ H F A h0 hs Q hq)
theorem ew_and {ma : M Bool} {mb : Store → M Bool} (ha : EvT G X W a ρ S ma) (hb : ∀ S1, EvW G X W (.BoolOp .And (b :: rest) pos) ρ S1 (mb S1)) :
    EvW G X W (.BoolOp .And (a :: b :: rest) pos) ρ S (bnd ma fun x S1 => if x = true then mb S1 else pur false S1) := by
  intro r S' hr σ H F A h0 hs Q hq
  refine SmW.of (pw_and smT smW) ?_
  show SmT X a σ H _
  rcases bnd_some hr with ⟨c, d, e1, e2⟩ | ⟨x, S1, e1, e2⟩
  · subst e2
    exact ha _ _ e1 σ H F A h0 hs _ hq
  · refine ha _ _ e1 σ H F A h0 hs _ fun F1 A1 H1 q0 g => ?_
    cases x with
    | true =>
      rw [if_pos rfl] at e2
      rw [if_pos rfl]
      refine hb S1 r S' e2 σ H1 F1 A1 q0 (hs.gr g) Q ?_
      cases r with
      | ok b => exact fun F2 A2 H2 q2 g2 => hq F2 A2 H2 q2 (g.trans g2)
      | err c d => exact ErrP.gr g hq
    | false =>
      rw [if_neg Bool.false_ne_true] at e2
      rw [if_neg Bool.false_ne_true]
      cases e2
      exact hq F1 A1 H1 q0 g
theorem ew_or {ma : M Bool} {mb : Store → M Bool} (ha : EvT G X W a ρ S ma) (hb : ∀ S1, EvW G X W (.BoolOp .Or (b :: rest) pos) ρ S1 (mb S1)) :
    EvW G X W (.BoolOp .Or (a :: b :: rest) pos) ρ S (bnd ma fun x S1 => if x = true then pur true S1 else mb S1) := by
  intro r S' hr σ H F A h0 hs Q hq
  refine SmW.of (pw_or smT smW) ?_
  show SmT X a σ H _
  rcases bnd_some hr with ⟨c, d, e1, e2⟩ | ⟨x, S1, e1, e2⟩
  · subst e2
    exact ha _ _ e1 σ H F A h0 hs _ hq
  · refine ha _ _ e1 σ H F A h0 hs _ fun F1 A1 H1 q0 g => ?_
    cases x with
    | false =>
      rw [if_neg Bool.false_ne_true] at e2
      rw [if_neg Bool.false_ne_true]
      refine hb S1 r S' e2 σ H1 F1 A1 q0 (hs.gr g) Q ?_
      cases r with
      | ok b => exact fun F2 A2 H2 q2 g2 => hq F2 A2 H2 q2 (g.trans g2)
      | err c d => exact ErrP.gr g hq
    | true =>
      rw [if_pos rfl] at e2
      rw [if_pos rfl]
      cases e2
      exact hq F1 A1 H1 q0 g
/-! ### as values -/
/-- a truth value, else nothing -/
def asBl (d : D) (k : Bool → M D) : M D := match d with
  | .bl b => k b
  | _ => none
theorem ev_one {op : BoolOp} {m : M D} (h : EvE G X W e ρ S m) : EvE G X W (.BoolOp op [e] pos) ρ S m := fun r S' hr σ H F A h0 hs Q hq => SmE.of (pe_one smE) (h r S' hr σ H F A h0 hs Q hq)
theorem ev_and {ma : M D} {mb : Store → M D} (ha : EvE G X W a ρ S ma) (hb : ∀ S1, EvE G X W (.BoolOp .And (b :: rest) pos) ρ S1 (mb S1)) :
    EvE G X W (.BoolOp .And (a :: b :: rest) pos) ρ S (bnd ma fun x S1 => asBl x fun k => if k = true then mb S1 else pur (.bl false) S1) := by
  intro r S' hr σ H F A h0 hs Q hq
  refine SmE.of (pe_and smE smE) ?_
  show SmE X a σ H _
  refine ha.bind hr h0 hs (Q := Q) hq.err fun x S1 e1 e2 v F1 A1 H1 q0 g s1 q1 => ?_
  unfold asBl at e2
  split at e2
  · rename_i k
    dsimp only at e2
    rw [isD_bl] at q1
    refine ⟨k, q1, ?_⟩
    cases k with
    | true =>
      rw [if_pos rfl] at e2
      rw [if_pos rfl]
      exact hb S1 r S' e2 σ H1 F1 A1 q0 s1 Q (hq.gr g)
    | false =>
      rw [if_neg Bool.false_ne_true] at e2
      rw [if_neg Bool.false_ne_true]
      cases e2
      exact hq _ F1 A1 H1 q0 g (isD_bl.mpr rfl)
  · cases e2
theorem ev_or {ma : M D} {mb : Store → M D} (ha : EvE G X W a ρ S ma) (hb : ∀ S1, EvE G X W (.BoolOp .Or (b :: rest) pos) ρ S1 (mb S1)) :
    EvE G X W (.BoolOp .Or (a :: b :: rest) pos) ρ S (bnd ma fun x S1 => asBl x fun k => if k = true then pur (.bl true) S1 else mb S1) := by
  intro r S' hr σ H F A h0 hs Q hq
  refine SmE.of (pe_or smE smE) ?_
  show SmE X a σ H _
  refine ha.bind hr h0 hs (Q := Q) hq.err fun x S1 e1 e2 v F1 A1 H1 q0 g s1 q1 => ?_
  unfold asBl at e2
  split at e2
  · rename_i k
    dsimp only at e2
    rw [isD_bl] at q1
    refine ⟨k, q1, ?_⟩
    cases k with
    | false =>
      rw [if_neg Bool.false_ne_true] at e2
      rw [if_neg Bool.false_ne_true]
      exact hb S1 r S' e2 σ H1 F1 A1 q0 s1 Q (hq.gr g)
    | true =>
      rw [if_pos rfl] at e2
      rw [if_pos rfl]
      cases e2
      exact hq _ F1 A1 H1 q0 g (isD_bl.mpr rfl)
  · cases e2
def notD (d : D) (S : Store) : M D := match truD S d with
  | some b => pur (.bl (!b)) S
  | none => none
theorem ev_not (hK : X.K = G.K) {m : M D} (h : EvE G X W e ρ S m) : EvE G X W (.UnaryOp .Not e pos) ρ S (bnd m notD) := by
  intro r S' hr σ H F A h0 hs Q hq
  refine SmE.of (pe_notT smE) ?_
  show SmE X e σ H _
  refine h.bind hr h0 hs (Q := Q) hq.err fun x S1 e1 e2 v F1 A1 H1 q0 g s1 q1 => ?_
  unfold notD at e2
  split at e2
  · rename_i k hk
    cases e2
    exact ⟨k, tru_at hK q0 q1 hk, hq _ F1 A1 H1 q0 g (isD_bl.mpr rfl)⟩
  · cases e2
def negD (d : D) (S : Store) : M D := match d with
  | .int i => pur (.int (-i)) S
  | _ => none
theorem ev_neg {m : M D} (h : EvE G X W e ρ S m) : EvE G X W (.UnaryOp .USub e pos) ρ S (bnd m negD) := by
  intro r S' hr σ H F A h0 hs Q hq
  refine SmE.of (pe_un un_neg smE) ?_
  show SmE X e σ H _
  refine h.bind hr h0 hs (Q := Q) hq.err fun x S1 e1 e2 v F1 A1 H1 q0 g s1 q1 => ?_
  unfold negD at e2
  split at e2
  · cases e2
    rw [isD_int] at q1
    exact ⟨_, q1, hq _ F1 A1 H1 q0 g (isD_int.mpr rfl)⟩
  · cases e2
theorem ev_ife {mt : M Bool} {ma mb : Store → M D} (ht : EvT G X W c ρ S mt) (ha : ∀ S1, EvE G X W a ρ S1 (ma S1)) (hb : ∀ S1, EvE G X W b ρ S1 (mb S1)) :
    EvE G X W (.IfExp c a b pos) ρ S (bnd mt fun x S1 => if x = true then ma S1 else mb S1) := by
  intro r S' hr σ H F A h0 hs Q hq
  refine SmE.of (pe_ifExp smT smE smE) ?_
  show SmT X c σ H _
  rcases bnd_some hr with ⟨c, d, e1, e2⟩ | ⟨x, S1, e1, e2⟩
  · subst e2
    exact ht _ _ e1 σ H F A h0 hs _ hq
  · refine ht _ _ e1 σ H F A h0 hs _ fun F1 A1 H1 q0 g => ?_
    cases x with
    | true =>
      rw [if_pos rfl] at e2
      rw [if_pos rfl]
      exact ha S1 r S' e2 σ H1 F1 A1 q0 (hs.gr g) Q (hq.gr g)
    | false =>
      rw [if_neg Bool.false_ne_true] at e2
      rw [if_neg Bool.false_ne_true]
      exact hb S1 r S' e2 σ H1 F1 A1 q0 (hs.gr g) Q (hq.gr g)
/-- a op b op' c -/
theorem ev_chain {op op' : CmpOp} {ma : M D} {mb mc : Store → M D} {f f' : D → D → Store → Option Bool} (ha : EvE G X W a ρ S ma) (hb : ∀ S1, EvE G X W b ρ S1 (mb S1)) (hc : ∀ S1, EvE G X W c ρ S1 (mc S1))
    (ho : ∀ x y S2, OpX G X (compareOp op) x y S2 ((f x y S2).map fun b => (.bl b, S2))) (ho' : ∀ x y S2, OpX G X (compareOp op') x y S2 ((f' x y S2).map fun b => (.bl b, S2))) (hm : lastMarks [op, op'] [b, c] = false) :
    EvE G X W (.Compare a [op, op'] [b, c] pos) ρ S (bnd ma fun x S1 => bnd (mb S1) fun y S2 => bnd (lft ((f x y S2).map fun b => (b, S2))) fun k S3 => if k = true then bnd (mc S3) fun z S4 => lft ((f' y z S4).map fun b => (.bl b, S4)) else pur (.bl false) S3) := by
  intro r S' h σ H F A h0 hs Q hq
  refine SmE.of (pe_chain smO smO smE smE smE hm) ?_
  show SmE X a σ H _
  refine ha.bind h h0 hs (Q := Q) hq.err fun x S1 e1 e2 v F1 A1 H1 q0 g s1 q1 => ?_
  show SmE X b σ H1 _
  refine (hb S1).bind e2 q0 s1 (Q := Q) (fun c d z => ErrP.gr g (hq.err c d z)) fun y S2 e3 e4 w F2 A2 H2 q2 g2 s2 q3 => ?_
  cases hf : f x y S2 with
  | none => rw [hf] at e4; cases e4
  | some k =>
    rw [hf] at e4
    refine ho x y S2 (.bl k) S2 (by rw [hf]; rfl) H2 F2 A2 v w q2 (q1.gr g2) q3 _ fun z F' A' H' a b c => ?_
    rw [isD_bl] at c
    refine ⟨k, c, ?_⟩
    have e5 : (if k = true then bnd (mc S2) fun z S4 => lft ((f' y z S4).map fun b => (D.bl b, S4)) else pur (.bl false) S2) = some (r, S') := e4
    cases k with
    | false =>
      rw [if_neg Bool.false_ne_true] at e5
      rw [if_neg Bool.false_ne_true]
      cases e5
      exact hq _ F' A' H' a ((g.trans g2).trans b) (isD_bl.mpr rfl)
    | true =>
      rw [if_pos rfl] at e5
      rw [if_pos rfl]
      refine (hc S2).bind e5 a (s2.gr b) (Q := Q) (fun c d z => ErrP.gr ((g.trans g2).trans b) (hq.err c d z)) fun z S3 e6 e7 u F3 A3 H3 q4 g3 s3 q5 => ?_
      cases hf' : f' y z S3 with
      | none => rw [hf'] at e7; cases e7
      | some k' =>
        rw [hf'] at e7
        cases e7
        exact ho' y z S' (.bl k') S' (by rw [hf']; rfl) H3 F3 A3 w u q4 (q3.gr (b.trans g3)) q5 _ fun z F' A' H' a2 b2 c2 => hq _ F' A' H' a2 (((g.trans g2).trans b).trans (g3.trans b2)) c2
theorem et_chain {op op' : CmpOp} {ma : M D} {mb mc : Store → M D} {f f' : D → D → Store → Option Bool} (ha : EvE G X W a ρ S ma) (hb : ∀ S1, EvE G X W b ρ S1 (mb S1)) (hc : ∀ S1, EvE G X W c ρ S1 (mc S1))
    (ho : ∀ x y S2, OpX G X (compareOp op) x y S2 ((f x y S2).map fun b => (.bl b, S2))) (ho' : ∀ x y S2, OpX G X (compareOp op') x y S2 ((f' x y S2).map fun b => (.bl b, S2))) (hm : lastMarks [op, op'] [b, c] = false) :
    EvT G X W (.Compare a [op, op'] [b, c] pos) ρ S (bnd ma fun x S1 => bnd (mb S1) fun y S2 => bnd (lft ((f x y S2).map fun b => (b, S2))) fun k S3 => if k = true then bnd (mc S3) fun z S4 => lft ((f' y z S4).map fun b => (b, S4)) else pur false S3) := by
  intro r S' h σ H F A h0 hs Q hq
  refine SmT.of (pt_chain smO smO smE smE smE hm) ?_
  show SmE X a σ H _
  rcases bnd_some h with ⟨c, d, e1, e2⟩ | ⟨x, S1, e1, e2⟩
  · subst e2
    exact ha _ _ e1 σ H F A h0 hs _ hq
  refine ha _ _ e1 σ H F A h0 hs _ fun v F1 A1 H1 q0 g q1 => ?_
  show SmE X b σ H1 _
  rcases bnd_some e2 with ⟨c, d, e3, e4⟩ | ⟨y, S2, e3, e4⟩
  · subst e4
    exact hb S1 _ _ e3 σ H1 F1 A1 q0 (hs.gr g) _ (ErrP.gr g hq)
  refine hb S1 _ _ e3 σ H1 F1 A1 q0 (hs.gr g) _ fun w F2 A2 H2 q2 g2 q3 => ?_
  cases hf : f x y S2 with
  | none => rw [hf] at e4; cases e4
  | some k =>
    rw [hf] at e4
    refine ho x y S2 (.bl k) S2 (by rw [hf]; rfl) H2 F2 A2 v w q2 (q1.gr g2) q3 _ fun z F' A' H' a b c => ?_
    rw [isD_bl] at c
    refine ⟨k, c, ?_⟩
    have e5 : (if k = true then bnd (mc S2) fun z S4 => lft ((f' y z S4).map fun b => (b, S4)) else pur false S2) = some (r, S') := e4
    cases k with
    | false =>
      rw [if_neg Bool.false_ne_true] at e5
      rw [if_neg Bool.false_ne_true]
      cases e5
      exact ⟨false, rfl, hq F' A' H' a ((g.trans g2).trans b)⟩
    | true =>
      rw [if_pos rfl] at e5
      rw [if_pos rfl]
      rcases bnd_some e5 with ⟨c', d, e6, e7⟩ | ⟨z, S3, e6, e7⟩
      · subst e7
        exact hc S2 _ _ e6 σ H' F' A' a (hs.gr ((g.trans g2).trans b)) _ (ErrP.gr ((g.trans g2).trans b) hq)
      · refine hc S2 _ _ e6 σ H' F' A' a (hs.gr ((g.trans g2).trans b)) _ fun u F3 A3 H3 q4 g3 q5 => ?_
        cases hf' : f' y z S3 with
        | none => rw [hf'] at e7; cases e7
        | some k' =>
          rw [hf'] at e7
          cases e7
          refine ho' y z S' (.bl k') S' (by rw [hf']; rfl) H3 F3 A3 w u q4 (q3.gr (b.trans g3)) q5 _ fun z F' A' H' a2 b2 c2 => ?_
          rw [isD_bl] at c2
          exact ⟨k', c2, hq F' A' H' a2 (((g.trans g2).trans b).trans (g3.trans b2))⟩

/-! ### subscripts -/
def ixD (x y : D) (S : Store) : M D := match x, y with
  | .str z, .int i => if fits z.length then (match atI z.cps.toList i with
    | some c => pur (.str ⟨#[c]⟩) S
    | none => none) else none
  | x, .int i => match itsD S x with
    | some ds => (match atI ds i with
      | some d => pur d S
      | none => none)
    | none => none
  | _, _ => none
theorem at_of {F : Hp} {A : List Addr} {ds : List D} {vs : List V} {i : Int} {d : D} (h : IsDs G F A ds vs) (e : atI ds i = some d) : ∃ v, atI vs i = some v ∧ IsD G F A d v := by
  unfold atI at e ⊢
  rw [h.len]
  cases hi : ixN ds.length i with
  | none => rw [hi] at e; cases e
  | some j =>
    rw [hi] at e
    obtain ⟨v, h1, h2⟩ := h.get (show ds[j]? = some d from e)
    exact ⟨v, h1, h2⟩
def notSlice : Expr → Bool
  | .Slice .. => false
  | _ => true
theorem plainIx_of {b : Expr} (h : notSlice b = true) : PlainIx b := by
  intro o i
  cases b <;> first | rfl | cases h
theorem ev_ix (hK : X.K = G.K) (hp : notSlice b = true) {ma : M D} {mb : Store → M D} (ha : EvE G X W a ρ S ma) (hb : ∀ S1, EvE G X W b ρ S1 (mb S1)) :
    EvE G X W (.Subscript a b pos) ρ S (bnd ma fun x S1 => bnd (mb S1) fun y S2 => ixD x y S2) := by
  intro r S' h σ H F A h0 hs Q hq
  refine SmE.of (pe_ix ix_seq smE smE (plainIx_of hp)) ?_
  show SmE X a σ H _
  refine ha.bind h h0 hs (Q := Q) hq.err fun x S1 e1 e2 v F1 A1 H1 q0 g s1 q1 => ?_
  show SmE X b σ H1 _
  refine (hb S1).bind e2 q0 s1 (Q := Q) (fun c d z => ErrP.gr g (hq.err c d z)) fun y S2 e3 e4 w F2 A2 H2 q2 g2 s2 q3 => ?_
  have q1' := q1.gr g2
  unfold ixD at e4
  split at e4
  · rename_i z i
    split at e4
    · rename_i hf
      split at e4
      · rename_i c hc
        cases e4
        rw [isD_str] at q1'
        rw [isD_int] at q3
        exact .inr (.inr ⟨z, i, c, q1', q3, fits_of hf, hc, hq _ F2 A2 H2 q2 (g.trans g2) (isD_str.mpr rfl)⟩)
      · cases e4
    · cases e4
  · rename_i i _
    split at e4
    · rename_i ds hd
      split at e4
      · rename_i d hat
        cases e4
        rw [isD_int] at q3
        obtain ⟨p, vs, rfl, a1, a2⟩ := its_at q2 q1' hd
        obtain ⟨u, b1, b2⟩ := at_of a2 hat
        have fin := hq u F2 A2 H2 q2 (g.trans g2) b2
        rcases a1 with a1 | a1
        · exact .inl ⟨p, vs, i, u, rfl, q3, by rw [hK]; exact a1, b1, fin⟩
        · exact .inr (.inl ⟨p, vs, i, u, rfl, q3, by rw [hK]; exact a1, b1, fin⟩)
      · cases e4
    · cases e4
  · cases e4

/-! ### slices -/
def SmP (X : Cx) (e : Option Expr) : TO := fun σ H Q => match e with
  | none => Q none H
  | some e => SmE X e σ H fun x H1 => ∃ i, x = .int i ∧ Q (some i) H1
theorem smP {e : Option Expr} : PO X e (SmP X e) := by
  cases e with
  | none => exact po_none
  | some e => exact po_some smE
/-- a bound of a slice -/
def EvP (G : Wd) (X : Cx) (W : WX) (e : Option Expr) (ρ : Rho) (S : Store) (m : M (Option Int)) : Prop := match e with
  | none => m = pur none S
  | some e => ∃ m', EvE G X W e ρ S m' ∧ m = bnd m' fun x S1 => match x with
    | .int i => pur (some i) S1
    | _ => none
theorem EvP.run {o : Option Expr} {m : M (Option Int)} (h : EvP G X W o ρ S m) {r : R (Option Int)} {S' : Store} (hr : m = some (r, S')) {σ : L2.St} {H F : Hp} {A : List Addr} (h0 : S0 G F A H S) (hs : Sl G F A σ ρ) {Q : Option Int → Hp → Prop}
    (he : ∀ c d, r = .err c d → ErrP G W F A σ S' c d) (hq : ∀ i, r = .ok i → ∀ F' A' H', S0 G F' A' H' S' → Gr F A F' A' → Q i H') : SmP X o σ H Q := by
  cases o with
  | none =>
    rw [show m = pur none S from h] at hr
    cases hr
    exact hq none rfl F A H h0 .refl
  | some e =>
    obtain ⟨m', h1, h2⟩ := h
    rw [h2] at hr
    show SmE X e σ H _
    rcases bnd_some hr with ⟨c, d, e1, e2⟩ | ⟨x, S1, e1, e2⟩
    · exact h1 _ _ e1 σ H F A h0 hs _ (he c d e2)
    · refine h1 _ _ e1 σ H F A h0 hs _ fun v F1 A1 H1 q0 g q1 => ?_
      split at e2
      · rename_i i
        cases e2
        rw [isD_int] at q1
        exact ⟨i, q1, hq (some i) rfl F1 A1 H1 q0 g⟩
      · cases e2
def cutD (ds : List D) (lo hi : Option Int) : List D := (ds.drop (HT.sIx ds.length 0 lo)).take (HT.sIx ds.length ds.length hi - HT.sIx ds.length 0 lo)
theorem cut_of {F : Hp} {A : List Addr} {ds : List D} {vs : List V} {lo hi : Option Int} (h : IsDs G F A ds vs) : IsDs G F A (cutD ds lo hi) (cutV vs lo hi) := by
  unfold cutD cutV
  rw [h.len]
  exact (h.drop _).take _
def slD (m : Bool) (x : D) (lo hi : Option Int) (S : Store) : Option (D × Store) := match x with
  | .str z => if fits z.length then some (.str (cutS z lo hi), S) else none
  | .tup ds => some (.tup (cutD ds lo hi), S)
  | .scr ns => mk m (cutD (ns.map .int) lo hi) S
  | x => match seqD S x with
    | some ds => mk m (cutD ds lo hi) S
    | none => none
theorem cut_whole {ds : List D} {lo hi : Option Int} (h : HT.sIx ds.length 0 lo = 0 ∧ HT.sIx ds.length ds.length hi = ds.length) : cutD ds lo hi = ds := by
  unfold cutD
  rw [h.1, h.2]
  simp
def SmSl (X : Cx) : V → Option Int → Option Int → Hp → VK → Prop := fun x lo hi H Q => (∃ z, x = .str z ∧ z.length ≤ sizeLine ∧ Q (.str (cutS z lo hi)) H) ∨ rSlA X.K x lo hi H Q ∨ rSlL X.K x lo hi H Q
theorem sl_any : SlR X (SmSl X) := sl_str.or (sl_tupA.or sl_list)
theorem sl_end {F : Hp} {A : List Addr} {H : Hp} {m : Bool} {x d : D} {v : V} {lo hi : Option Int} {S' : Store} (hK : X.K = G.K) (h : slD m x lo hi S = some (d, S')) (h0 : S0 G F A H S) (hv : IsD G F A x v) {Q : VK}
    (hq : ∀ v F' A' H', S0 G F' A' H' S' → Gr F A F' A' → IsD G F' A' d v → Q v H') : SmSl X v lo hi H Q := by
  unfold slD at h
  split at h
  · rename_i z
    split at h
    · rename_i hf
      cases h
      rw [isD_str] at hv
      exact .inl ⟨z, hv, fits_of hf, hq _ F A H h0 .refl (isD_str.mpr rfl)⟩
    · cases h
  · rename_i ds
    cases h
    have hv' := hv
    rw [isD_tup] at hv
    obtain ⟨p, vs, rfl, a1, a2⟩ := hv
    have gH : Gr F A H A := ⟨h0.sub, [], by simp⟩
    refine .inr (.inl ⟨p, vs, rfl, by rw [hK]; exact gH.sqt a1, fun e => ?_, fun _ q n => tup_end h0 (cut_of a2) n hq⟩)
    rw [a2.len] at e
    rw [cut_whole e] at hq
    exact hq _ F A H h0 .refl hv'
  · rename_i ns
    simp only [IsD] at hv
    obtain ⟨p, e, h1⟩ := hv
    have g : Gr F A H A := ⟨h0.sub, [], by simp⟩
    exact .inr (.inr ⟨p, ns.map V.int, e, by rw [hK]; exact g.sql h1, (mk_end h h0 (cut_of (isDs_ints ns)) hq).2⟩)
  · split at h
    · rename_i ds hd
      obtain ⟨p, vs, rfl, a1, a2⟩ := seq_at h0 hv hd
      exact .inr (.inr ⟨p, vs, rfl, SqL.of a1, (mk_end h h0 (cut_of a2) hq).2⟩)
    · cases h
theorem ev_sl {m : Bool} (hK : X.K = G.K) {lo hi : Option Expr} {p2 : Pos} {ma : M D} {ml mh : Store → M (Option Int)} (ha : EvE G X W a ρ S ma) (hl : ∀ S1, EvP G X W lo ρ S1 (ml S1)) (hh : ∀ S1, EvP G X W hi ρ S1 (mh S1)) :
    EvE G X W (.Subscript a (.Slice lo hi none p2) pos) ρ S (bnd ma fun x S1 => bnd (ml S1) fun l S2 => bnd (mh S2) fun u S3 => lft (slD m x l u S3)) := by
  intro r S' h σ H F A h0 hs Q hq
  refine SmE.of (pe_slice sl_any smE smP smP) ?_
  show SmE X a σ H _
  refine ha.bind h h0 hs (Q := Q) hq.err fun x S1 e1 e2 v F1 A1 H1 q0 g s1 q1 => ?_
  show SmP X lo σ H1 _
  rcases bnd_some e2 with ⟨c, d, e3, e4⟩ | ⟨l, S2, e3, e4⟩
  · subst e4
    refine (hl S1).run e3 q0 s1 (fun c d z => ?_) (fun i z => by cases z)
    cases z
    exact ErrP.gr g hq
  · refine (hl S1).run e3 q0 s1 (fun c d z => by cases z) fun i z F2 A2 H2 q2 g2 => ?_
    cases z
    show SmP X hi σ H2 _
    rcases bnd_some e4 with ⟨c, d, e5, e6⟩ | ⟨u, S3, e5, e6⟩
    · subst e6
      refine (hh S2).run e5 q2 (s1.gr g2) (fun c d z => ?_) (fun i z => by cases z)
      cases z
      exact ErrP.gr (g.trans g2) hq
    · refine (hh S2).run e5 q2 (s1.gr g2) (fun c d z => by cases z) fun i z F3 A3 H3 q3 g3 => ?_
      cases z
      cases hf : slD m x l u S3 with
      | none => rw [hf] at e6; cases e6
      | some p =>
        obtain ⟨d, S4⟩ := p
        rw [hf] at e6
        cases e6
        exact sl_end hK hf q3 (q1.gr (g2.trans g3)) fun v F' A' H' a b c => hq v F' A' H' a (((g.trans g2).trans g3).trans b) c
/-- xs[::-1] -/
def revD (m : Bool) (x : D) (S : Store) : Option (D × Store) := match seqD S x with
  | some ds => mk m ds.reverse S
  | none => none
theorem IsDs.rev {F : Hp} {A : List Addr} : ∀ {ds : List D} {vs : List V}, IsDs G F A ds vs → IsDs G F A ds.reverse vs.reverse
  | [], vs, h => by rw [isDs_nil] at h; subst h; simp [IsDs]
  | d :: ds, vs, h => by
    obtain ⟨v, ws, rfl, h1, h2⟩ := isDs_cons.mp h
    rw [List.reverse_cons, List.reverse_cons]
    exact (IsDs.rev h2).append (isDs_cons.mpr ⟨v, [], rfl, h1, isDs_nil.mpr rfl⟩)
theorem ev_rev {m : Bool} {k : Nat} {p1 p2 p3 : Pos} {ma : M D} (ha : EvE G X W a ρ S ma) : EvE G X W (.Subscript a (.Slice none none (some (.UnaryOp .USub (.Constant (.int 1) k p1) p2)) p3) pos) ρ S (bnd ma fun x S1 => lft (revD m x S1)) := by
  intro r S' h σ H F A h0 hs Q hq
  refine SmE.of (pe_revL smE) ?_
  show SmE X a σ H _
  refine ha.bind h h0 hs (Q := Q) hq.err fun x S1 e1 e2 v F1 A1 H1 q0 g s1 q1 => ?_
  cases hf : revD m x S1 with
  | none => rw [hf] at e2; cases e2
  | some p =>
    obtain ⟨d, S4⟩ := p
    rw [hf] at e2
    cases e2
    unfold revD at hf
    split at hf
    · rename_i ds hd
      obtain ⟨p, vs, rfl, a1, a2⟩ := seq_at q0 q1 hd
      exact ⟨p, vs, rfl, SqL.of a1, (mk_end hf q0 a2.rev fun v F' A' H' a b c => hq v F' A' H' a (g.trans b) c).2⟩
    · cases hf
end
end Z


set_option Elab.async false
set_option linter.all false
set_option maxRecDepth 100000
set_option maxHeartbeats 4000000
namespace Z
open PySem PySem.Spec PyProof.Rows L2
open LamX (Tabs TabS ExtN CodeO)

/-! ## calls -/
def unStar : Expr → Bool
  | .Starred .. => false
  | _ => true
theorem star_cons {e : Expr} {es : List Expr} {env : Env} (h : unStar e = true) : starEach (e :: es) env = (false, eval e env) :: starEach es env := by
  cases e <;> first | rfl | cases h
theorem star_any {env : Env} {pos : Pos} : ∀ {es : List Expr}, es.all unStar = true → (backTo pos (starEach es env)).any (·.1) = false
  | [], _ => rfl
  | e :: es, h => by
    simp only [List.all_cons, Bool.and_eq_true] at h
    rw [star_cons h.1]
    show (false || (backTo pos (starEach es env)).any (·.1)) = false
    rw [star_any h.2]
    rfl
section
variable (X : Cx)
/-- a call's largest reading -/
def SmC (f : Value) : List V → Hp → VK → Prop := fun xs H Q => ∀ pins s σ us, Inv X pins σ H s → Vals xs us → wpAny (model X.prog X.w) X.A (call f us) (EP X pins σ Q) X.xe s
def SmM (id : String) : V → List V → Hp → VK → Prop := fun x xs H Q => ∀ pins s σ v us, Inv X pins σ H s → RelV x v → Vals xs us → wpAny (model X.prog X.w) X.A (call (.builtin id) (v :: us)) (EP X pins σ Q) X.xe s
end
section
variable {X : Cx}
theorem smC {f : Value} : CallR X f (SmC X f) := fun pins s σ H xs us Q I r h => h pins s σ us I r
theorem SmC.of {f : Value} {r : List V → Hp → VK → Prop} (h : CallR X f r) {xs : List V} {H : Hp} {Q : VK} (q : r xs H Q) : SmC X f xs H Q := fun pins s σ us I k => h pins s σ H xs us Q I k q
theorem smM {id : String} : MtR X id (SmM X id) := fun pins s σ H x xs v us Q I r k h => h pins s σ v us I r k
theorem SmM.of {id : String} {r : V → List V → Hp → VK → Prop} (h : MtR X id r) {x : V} {xs : List V} {H : Hp} {Q : VK} (q : r x xs H Q) : SmM X id x xs H Q := fun pins s σ v us I k k' => h pins s σ H x xs v us Q I k k' q
end
/-- a call of a built-in with data does what m says -/
def CaX (G : Wd) (X : Cx) (f : Value) (m : List D → Store → Option (D × Store)) : Prop :=
  ∀ ds S d S', m ds S = some (d, S') → ∀ H F A vs, S0 G F A H S → IsDs G F A ds vs → ∀ Q : VK, (∀ v F' A' H', S0 G F' A' H' S' → Gr F A F' A' → IsD G F' A' d v → Q v H') → SmC X f vs H Q
/-- a method of type T -/
def MeX (G : Wd) (X : Cx) (T id : String) (m : D → List D → Store → Option (D × Store)) : Prop :=
  ∀ x ds S d S', m x ds S = some (d, S') → ∀ H F A v vs, S0 G F A H S → IsD G F A x v → IsDs G F A ds vs → ∀ Q : VK, (∀ v F' A' H', S0 G F' A' H' S' → Gr F A F' A' → IsD G F' A' d v → Q v H') → SmM X id v vs H Q
section
variable {G : Wd} {X : Cx} {W : WX} {ρ : Rho} {S : Store} {a b c e o : Expr} {es : List Expr} {pos p apos : Pos} {x : Str}
theorem EvA.bind {m : M (List D)} {f : List D → Store → Option (D × Store)} (ha : EvA G X W es ρ S m) {r : R D} {S' : Store} (h : (bnd m fun ds S1 => lft (f ds S1)) = some (r, S')) {σ : L2.St} {H : Hp} {F : Hp} {A : List Addr} (h0 : S0 G F A H S) (hs : Sl G F A σ ρ) {Q : VK}
    (hq : PostE G W F A σ S' Q r) {Q2 : List V → Hp → Prop} (hk : ∀ ds d S1, f ds S1 = some (d, S') → ∀ vs F1 A1 H1, S0 G F1 A1 H1 S1 → IsDs G F1 A1 ds vs → (∀ v F' A' H', S0 G F' A' H' S' → Gr F1 A1 F' A' → IsD G F' A' d v → Q v H') → Q2 vs H1) : SmA X es σ H Q2 := by
  rcases bnd_some h with ⟨c, d, e1, e2⟩ | ⟨ds, S1, e1, e2⟩
  · subst e2
    exact ha _ _ e1 σ H F A h0 hs Q2 hq
  · refine ha _ _ e1 σ H F A h0 hs Q2 fun vs F1 A1 H1 q0 g q1 => ?_
    cases hf : f ds S1 with
    | none => rw [hf] at e2; cases e2
    | some p =>
      obtain ⟨d, S3⟩ := p
      rw [hf] at e2
      cases e2
      exact hk ds d S1 hf vs F1 A1 H1 q0 q1 fun v F' A' H' a b c => hq v F' A' H' a (g.trans b) c
theorem ev_callB {id : String} {f : List D → Store → Option (D × Store)} {m : M (List D)} (hc : CaX G X (.builtin id) f) (hg : Gl X x) (hm : X.mg x = none) (hv : bootBuiltins x = some (.builtin id)) (ha : EvA G X W (e :: es) ρ S m) (hs : (e :: es).all unStar = true) (hn : x ≠ "__name__") (hdb : (x == ("__debug__" : Str)) = false) :
    EvE G X W (.Call (.Name x p) (e :: es) [] pos) ρ S (bnd m fun ds S1 => lft (f ds S1)) := by
  intro r S' h σ H F A h0 hsl Q hq
  simp only [List.all_cons, Bool.and_eq_true] at hs
  refine SmE.of (pe_callB smC hg hm hv smA hn hdb (star_cons hs.1) (star_any hs.2)) ?_
  show SmA X (e :: es) σ H _
  exact ha.bind h h0 hsl hq fun ds d S1 hf vs F1 A1 H1 q0 q1 k => hc ds S1 d S' hf H1 F1 A1 vs q0 q1 Q k
theorem ev_callTy {T : String} {f : List D → Store → Option (D × Store)} {m : M (List D)} (hc : CaX G X (.type T) f) (hg : Gl X x) (hm : X.mg x = none) (hv : bootBuiltins x = some (.type T)) (ha : EvA G X W (e :: es) ρ S m) (hs : (e :: es).all unStar = true) (hn : x ≠ "__name__") (hdb : (x == ("__debug__" : Str)) = false) :
    EvE G X W (.Call (.Name x p) (e :: es) [] pos) ρ S (bnd m fun ds S1 => lft (f ds S1)) := by
  intro r S' h σ H F A h0 hsl Q hq
  simp only [List.all_cons, Bool.and_eq_true] at hs
  refine SmE.of (pe_callTy smC hg hm hv smA hn hdb (star_cons hs.1) (star_any hs.2)) ?_
  show SmA X (e :: es) σ H _
  exact ha.bind h h0 hsl hq fun ds d S1 hf vs F1 A1 H1 q0 q1 k => hc ds S1 d S' hf H1 F1 A1 vs q0 q1 Q k
/-- no bare call stands ahead of the dot -/
def unCall : Expr → Bool
  | .Call .. => false
  | _ => true
theorem base_of {f : Str} {env : Env} (h : unCall o = true) : attributeBase o f env (eval o env) = eval o env := by
  cases o <;> first | rfl | cases h
theorem few_one {env : Env} {q : Pos} (h : unStar e = true) : ((backTo q (starEach [e] env)).all (fun x => !x.1) && (backToKw q (keywordEach [] env)).all (fun x => x.1.isSome)
      && decide (([e] : List Expr).length + ([] : List Keyword).length + (if ([] : List Keyword).isEmpty then 0 else 1) < 30)) = true := by
  rw [star_cons h]
  rfl
/-- a method of one argument; ck: the receiver is of the type -/
theorem ev_meth {T id : String} {name : Str} {ck : D → Store → Bool} {f : D → List D → Store → Option (D × Store)} {mo : M D} {ma : Store → M D} (pa : PlainAttrs T) (slot : Slot T name id) (hty : typeOf (.builtin id) = pure (.type "method_descriptor")) (hf : MeX G X T id f)
    (ty : ∀ x S1, ck x S1 = true → ∀ F A H v, S0 G F A H S1 → IsD G F A x v → tyV X.K T v H)
    (ho : EvE G X W o ρ S mo) (ha : ∀ S1, EvE G X W e ρ S1 (ma S1)) (hu : unCall o = true) (hs : unStar e = true) (hl : (apos.endLine == pos.line) = true) :
    EvE G X W (.Call (.Attribute o name apos) [e] [] pos) ρ S (bnd mo fun x S1 => if ck x S1 = true then bnd (ma S1) fun y S2 => lft (f x [y] S2) else none) := by
  intro r S' h σ H F A h0 hsl Q hq
  refine SmE.of (pe_bm pa slot hty smM smE (pa_cons smE pa_nil (star_cons hs)) (base_of hu) (few_one hs) hl (star_cons hs) rfl) ?_
  show SmE X o σ H _
  refine ho.bind h h0 hsl (Q := Q) hq.err fun x S1 e1 e2 v F1 A1 H1 q0 g s1 q1 => ?_
  split at e2
  · rename_i hck
    refine ⟨ty x S1 hck F1 A1 H1 v q0 q1, ?_⟩
    show SmE X e σ H1 _
    refine (ha S1).bind e2 q0 s1 (Q := Q) (fun c d z => ErrP.gr g (hq.err c d z)) fun y S2 e3 e4 w F2 A2 H2 q2 g2 s2 q3 => ?_
    cases hff : f x [y] S2 with
    | none => rw [hff] at e4; cases e4
    | some p =>
      obtain ⟨d, S3⟩ := p
      rw [hff] at e4
      cases e4
      exact hf x [y] S2 d S' hff H2 F2 A2 v [w] q2 (q1.gr g2) (isDs_cons.mpr ⟨w, [], rfl, q3, isDs_nil.mpr rfl⟩) Q fun z F' A' H' a b c => hq z F' A' H' a ((g.trans g2).trans b) c
  · cases e2
/-- .. of none -/
theorem ev_meth0 {T id : String} {name : Str} {ck : D → Store → Bool} {f : D → List D → Store → Option (D × Store)} {mo : M D} (pa : PlainAttrs T) (slot : Slot T name id) (hty : typeOf (.builtin id) = pure (.type "method_descriptor")) (hf : MeX G X T id f)
    (ty : ∀ x S1, ck x S1 = true → ∀ F A H v, S0 G F A H S1 → IsD G F A x v → tyV X.K T v H)
    (ho : EvE G X W o ρ S mo) (hu : unCall o = true) (hl : (apos.endLine == pos.line) = true) :
    EvE G X W (.Call (.Attribute o name apos) [] [] pos) ρ S (bnd mo fun x S1 => if ck x S1 = true then lft (f x [] S1) else none) := by
  intro r S' h σ H F A h0 hsl Q hq
  refine SmE.of (pe_bm0 pa slot hty smM smE (base_of hu) hl) ?_
  show SmE X o σ H _
  refine ho.bind h h0 hsl (Q := Q) hq.err fun x S1 e1 e2 v F1 A1 H1 q0 g s1 q1 => ?_
  split at e2
  · rename_i hck
    refine ⟨ty x S1 hck F1 A1 H1 v q0 q1, ?_⟩
    cases hff : f x [] S1 with
    | none => rw [hff] at e2; cases e2
    | some p =>
      obtain ⟨d, S3⟩ := p
      rw [hff] at e2
      cases e2
      exact hf x [] S1 d S' hff H1 F1 A1 v [] q0 q1 (isDs_nil.mpr rfl) Q fun z F' A' H' a b c => hq z F' A' H' a (g.trans b) c
  · cases e2

/-! ### built-in functions by data -/
def absD : List D → Store → Option (D × Store)
  | [.int i], S => some (.int (if i < 0 then -i else i), S)
  | _, _ => none
theorem ca_abs : CaX G X (.builtin "abs") absD := by
  intro ds S d S' h H F A vs h0 hv Q hq
  unfold absD at h
  split at h
  · cases h
    obtain ⟨v, ws, rfl, h1, h2⟩ := isDs_cons.mp hv
    rw [isDs_nil] at h2
    rw [isD_int] at h1
    subst h1 h2
    exact SmC.of call_abs ⟨_, rfl, hq _ F A H h0 .refl (isD_int.mpr rfl)⟩
  · cases h
def lenD : List D → Store → Option (D × Store)
  | [.str z], S => if fits z.length then some (.int z.length, S) else none
  | [x], S => (itsD S x).map fun ds => (.int ds.length, S)
  | _, _ => none
theorem ca_len (hK : X.K = G.K) : CaX G X (.builtin "len") lenD := by
  intro ds S d S' h H F A vs h0 hv Q hq
  unfold lenD at h
  split at h
  · split at h
    · rename_i hf
      cases h
      obtain ⟨v, ws, rfl, h1, h2⟩ := isDs_cons.mp hv
      rw [isDs_nil] at h2
      rw [isD_str] at h1
      subst h1 h2
      exact SmC.of call_len_str ⟨_, rfl, fits_of hf, hq _ F A H h0 .refl (isD_int.mpr rfl)⟩
    · cases h
  · simp only [Option.map_eq_some_iff] at h
    obtain ⟨es, e1, e2⟩ := h
    cases e2
    obtain ⟨v, ws, rfl, h1, h2⟩ := isDs_cons.mp hv
    rw [isDs_nil] at h2
    subst h2
    obtain ⟨p, us, rfl, a1, a2⟩ := its_at h0 h1 e1
    refine SmC.of call_len_seq ⟨p, us, rfl, by rw [hK]; exact a1, ?_⟩
    rw [a2.len]
    exact hq _ F A H h0 .refl (isD_int.mpr rfl)
  · cases h
def tupleD : List D → Store → Option (D × Store)
  | [x], S => (itsD S x).map fun ds => (.tup ds, S)
  | _, _ => none
theorem ca_tuple (hK : X.K = G.K) : CaX G X (.type "tuple") tupleD := by
  intro ds S d S' h H F A vs h0 hv Q hq
  unfold tupleD at h
  split at h
  · rename_i x
    simp only [Option.map_eq_some_iff] at h
    obtain ⟨es, e1, e2⟩ := h
    cases e2
    obtain ⟨v, ws, rfl, h1, h2⟩ := isDs_cons.mp hv
    rw [isDs_nil] at h2
    subst h2
    have k : ∀ (es : List D) (S : Store), (x = .lst es ∨ ∃ k, x = .ptr k) → itsD S x = some es → seqD S x = some es := by
      intro es S z e
      rcases z with rfl | ⟨k, rfl⟩ <;> simpa [itsD, seqD] using e
    cases x with
    | tup us =>
      simp only [itsD, Option.some.injEq] at e1
      subst e1
      have h1' := h1
      rw [isD_tup] at h1
      obtain ⟨p, ws, rfl, a1, a2⟩ := h1
      have gH : Gr F A H A := ⟨h0.sub, [], by simp⟩
      exact SmC.of call_tuple_of ⟨p, ws, rfl, .inr ⟨by rw [hK]; exact gH.sqt a1, hq _ F A H h0 .refl h1'⟩⟩
    | lst us =>
      obtain ⟨p, ws, rfl, a1, a2⟩ := seq_at h0 h1 (k _ _ (.inl (by simpa [itsD] using e1)) e1)
      exact SmC.of call_tuple_of ⟨p, ws, rfl, .inl ⟨SqL.of a1, fun l n => tup_end h0 a2 n hq⟩⟩
    | ptr i =>
      obtain ⟨p, ws, rfl, a1, a2⟩ := seq_at h0 h1 (k _ _ (.inr ⟨i, rfl⟩) e1)
      exact SmC.of call_tuple_of ⟨p, ws, rfl, .inl ⟨SqL.of a1, fun l n => tup_end h0 a2 n hq⟩⟩
    | scr ns =>
      simp only [itsD, Option.some.injEq] at e1
      subst e1
      simp only [IsD] at h1
      obtain ⟨p, rfl, a1⟩ := h1
      have gH : Gr F A H A := ⟨h0.sub, [], by simp⟩
      exact SmC.of call_tuple_of ⟨p, _, rfl, .inl ⟨by rw [hK]; exact gH.sql a1, fun l n => tup_end h0 (isDs_ints ns) n hq⟩⟩
    | _ => simp [itsD] at e1
  · cases h
def listD (m : Bool) : List D → Store → Option (D × Store)
  | [x], S => match itsD S x with
    | some ds => mk m ds S
    | none => none
  | _, _ => none
theorem ca_list {m : Bool} (hK : X.K = G.K) : CaX G X (.type "list") (listD m) := by
  intro ds S d S' h H F A vs h0 hv Q hq
  unfold listD at h
  split at h
  · split at h
    · rename_i es e1
      obtain ⟨v, ws, rfl, h1, h2⟩ := isDs_cons.mp hv
      rw [isDs_nil] at h2
      subst h2
      obtain ⟨p, us, rfl, a1, a2⟩ := its_at h0 h1 e1
      exact SmC.of call_list_of ⟨p, us, rfl, by rw [hK]; exact a1, (mk_end h h0 a2 hq).2⟩
    · cases h
  · cases h
/-- the ints, the truth values of a list -/
def asInts : List D → Option (List Int)
  | [] => some []
  | .int i :: r => (asInts r).map fun l => i :: l
  | _ => none
def asBls : List D → Option (List Bool)
  | [] => some []
  | .bl i :: r => (asBls r).map fun l => i :: l
  | _ => none
def asStrs : List D → Option (List Str)
  | [] => some []
  | .str i :: r => (asStrs r).map fun l => i :: l
  | _ => none
theorem asInts_ok {F : Hp} {A : List Addr} : ∀ {ds : List D} {l : List Int} {vs : List V}, asInts ds = some l → IsDs G F A ds vs → vs = l.map V.int
  | [], l, vs, h, hv => by
    simp only [asInts, Option.some.injEq] at h
    subst h
    rw [isDs_nil] at hv
    subst hv
    rfl
  | d :: ds, l, vs, h, hv => by
    cases d with
    | int i =>
      simp only [asInts, Option.map_eq_some_iff] at h
      obtain ⟨l', e, rfl⟩ := h
      obtain ⟨v, ws, rfl, h1, h2⟩ := isDs_cons.mp hv
      rw [isD_int] at h1
      rw [h1, asInts_ok e h2, List.map_cons]
    | _ => simp [asInts] at h
theorem asBls_ok {F : Hp} {A : List Addr} : ∀ {ds : List D} {l : List Bool} {vs : List V}, asBls ds = some l → IsDs G F A ds vs → vs = l.map V.bl
  | [], l, vs, h, hv => by
    simp only [asBls, Option.some.injEq] at h
    subst h
    rw [isDs_nil] at hv
    subst hv
    rfl
  | d :: ds, l, vs, h, hv => by
    cases d with
    | bl i =>
      simp only [asBls, Option.map_eq_some_iff] at h
      obtain ⟨l', e, rfl⟩ := h
      obtain ⟨v, ws, rfl, h1, h2⟩ := isDs_cons.mp hv
      rw [isD_bl] at h1
      rw [h1, asBls_ok e h2, List.map_cons]
    | _ => simp [asBls] at h
theorem asStrs_ok {F : Hp} {A : List Addr} : ∀ {ds : List D} {l : List Str} {vs : List V}, asStrs ds = some l → IsDs G F A ds vs → vs = l.map V.str
  | [], l, vs, h, hv => by
    simp only [asStrs, Option.some.injEq] at h
    subst h
    rw [isDs_nil] at hv
    subst hv
    rfl
  | d :: ds, l, vs, h, hv => by
    cases d with
    | str i =>
      simp only [asStrs, Option.map_eq_some_iff] at h
      obtain ⟨l', e, rfl⟩ := h
      obtain ⟨v, ws, rfl, h1, h2⟩ := isDs_cons.mp hv
      rw [isD_str] at h1
      rw [h1, asStrs_ok e h2, List.map_cons]
    | _ => simp [asStrs] at h
def oneList (S : Store) : List D → Option (List D)
  | [x] => seqD S x
  | _ => none
theorem oneList_at {F : Hp} {A : List Addr} {H : Hp} {S : Store} {ds es : List D} {vs : List V} (h : oneList S ds = some es) (h0 : S0 G F A H S) (hv : IsDs G F A ds vs) : ∃ p us, vs = [.ref p] ∧ H p = some (.lst us) ∧ IsDs G F A es us := by
  unfold oneList at h
  split at h
  · obtain ⟨v, ws, rfl, h1, h2⟩ := isDs_cons.mp hv
    rw [isDs_nil] at h2
    subst h2
    obtain ⟨p, us, rfl, a1, a2⟩ := seq_at h0 h1 h
    exact ⟨p, us, rfl, a1, a2⟩
  · cases h
def sumD (ds : List D) (S : Store) : Option (D × Store) := ((oneList S ds).bind asInts).map fun l => (.int l.sum, S)
def allD (ds : List D) (S : Store) : Option (D × Store) := ((oneList S ds).bind asBls).map fun l => (.bl (l.all id), S)
def anyD (ds : List D) (S : Store) : Option (D × Store) := ((oneList S ds).bind asBls).map fun l => (.bl (l.any id), S)
theorem ca_sum (hc : X.calm = true) : CaX G X (.builtin "sum") sumD := by
  intro ds S d S' h H F A vs h0 hv Q hq
  simp only [sumD, Option.map_eq_some_iff, Option.bind_eq_some_iff] at h
  obtain ⟨l, ⟨es, e1, e2⟩, e3⟩ := h
  cases e3
  obtain ⟨p, us, rfl, a1, a2⟩ := oneList_at e1 h0 hv
  have := asInts_ok e2 a2
  subst this
  exact SmC.of (cr_sum hc) ⟨p, l, rfl, SqL.of a1, hq _ F A H h0 .refl (isD_int.mpr rfl)⟩
theorem ca_all (hc : X.calm = true) : CaX G X (.builtin "all") allD := by
  intro ds S d S' h H F A vs h0 hv Q hq
  simp only [allD, Option.map_eq_some_iff, Option.bind_eq_some_iff] at h
  obtain ⟨l, ⟨es, e1, e2⟩, e3⟩ := h
  cases e3
  obtain ⟨p, us, rfl, a1, a2⟩ := oneList_at e1 h0 hv
  have := asBls_ok e2 a2
  subst this
  exact SmC.of (cr_all hc) ⟨p, l, rfl, SqL.of a1, hq _ F A H h0 .refl (isD_bl.mpr rfl)⟩
theorem ca_any (hc : X.calm = true) : CaX G X (.builtin "any") anyD := by
  intro ds S d S' h H F A vs h0 hv Q hq
  simp only [anyD, Option.map_eq_some_iff, Option.bind_eq_some_iff] at h
  obtain ⟨l, ⟨es, e1, e2⟩, e3⟩ := h
  cases e3
  obtain ⟨p, us, rfl, a1, a2⟩ := oneList_at e1 h0 hv
  have := asBls_ok e2 a2
  subst this
  exact SmC.of (cr_any hc) ⟨p, l, rfl, SqL.of a1, hq _ F A H h0 .refl (isD_bl.mpr rfl)⟩
def intD : List D → Store → Option (D × Store)
  | [.int i], S => some (.int i, S)
  | [.bl b], S => some (.int (if b then 1 else 0), S)
  | [.str z], S => match PySem.intText? z with
    | some n => if Nat.ble z.length 640 then some (.int n, S) else none
    | none => none
  | _, _ => none
theorem ca_int : CaX G X (.type "int") intD := by
  intro ds S d S' h H F A vs h0 hv Q hq
  unfold intD at h
  split at h
  · cases h
    obtain ⟨v, ws, rfl, h1, h2⟩ := isDs_cons.mp hv
    rw [isDs_nil] at h2
    rw [isD_int] at h1
    subst h1 h2
    exact SmC.of call_int1 (.inl ⟨_, rfl, hq _ F A H h0 .refl (isD_int.mpr rfl)⟩)
  · cases h
    obtain ⟨v, ws, rfl, h1, h2⟩ := isDs_cons.mp hv
    rw [isDs_nil] at h2
    rw [isD_bl] at h1
    subst h1 h2
    exact SmC.of call_int1 (.inr ⟨_, rfl, hq _ F A H h0 .refl (isD_int.mpr rfl)⟩)
  · split at h
    · split at h
      · rename_i n hn hl
        cases h
        obtain ⟨v, ws, rfl, h1, h2⟩ := isDs_cons.mp hv
        rw [isDs_nil] at h2
        rw [isD_str] at h1
        subst h1 h2
        exact SmC.of call_int_str ⟨_, n, rfl, hn, Nat.le_of_ble_eq_true hl, hq _ F A H h0 .refl (isD_int.mpr rfl)⟩
      · cases h
    · cases h
  · cases h
/-- an int's text -/
def its (i : Int) : Str := Str.ofString (toString i)
def strD : List D → Store → Option (D × Store)
  | [.int i], S => if Nat.blt i.natAbs.log2 1920 then some (.str (its i), S) else none
  | [.str z], S => some (.str z, S)
  | _, _ => none
theorem ca_str : CaX G X (.type "str") strD := by
  intro ds S d S' h H F A vs h0 hv Q hq
  unfold strD at h
  split at h
  · split at h
    · rename_i i hl
      cases h
      obtain ⟨v, ws, rfl, h1, h2⟩ := isDs_cons.mp hv
      rw [isDs_nil] at h2
      rw [isD_int] at h1
      subst h1 h2
      exact SmC.of call_str_int ⟨_, rfl, Nat.le_of_ble_eq_true hl, hq _ F A H h0 .refl (isD_str.mpr rfl)⟩
    · cases h
  · cases h
    obtain ⟨v, ws, rfl, h1, h2⟩ := isDs_cons.mp hv
    rw [isDs_nil] at h2
    rw [isD_str] at h1
    subst h1 h2
    exact SmC.of SkE.call_str_str ⟨_, rfl, hq _ F A H h0 .refl (isD_str.mpr rfl)⟩
  · cases h
def maxD : List D → Store → Option (D × Store)
  | [.int i, .int j], S => some (.int (if j > i then j else i), S)
  | _, _ => none
def minD : List D → Store → Option (D × Store)
  | [.int i, .int j], S => some (.int (if j < i then j else i), S)
  | _, _ => none
theorem isDs_two {F : Hp} {A : List Addr} {x y : D} {vs : List V} (h : IsDs G F A [x, y] vs) : ∃ v w, vs = [v, w] ∧ IsD G F A x v ∧ IsD G F A y w := by
  obtain ⟨v, ws, rfl, h1, h2⟩ := isDs_cons.mp h
  obtain ⟨w, us, rfl, h3, h4⟩ := isDs_cons.mp h2
  rw [isDs_nil] at h4
  subst h4
  exact ⟨v, w, rfl, h1, h3⟩
theorem isDs_one {F : Hp} {A : List Addr} {x : D} {vs : List V} (h : IsDs G F A [x] vs) : ∃ v, vs = [v] ∧ IsD G F A x v := by
  obtain ⟨v, ws, rfl, h1, h2⟩ := isDs_cons.mp h
  rw [isDs_nil] at h2
  subst h2
  exact ⟨v, rfl, h1⟩
theorem ca_max (hc : X.calm = true) : CaX G X (.builtin "max") maxD := by
  intro ds S d S' h H F A vs h0 hv Q hq
  unfold maxD at h
  split at h
  · cases h
    obtain ⟨v, w, rfl, h1, h2⟩ := isDs_two hv
    rw [isD_int] at h1 h2
    subst h1 h2
    exact SmC.of (call_max2 hc) ⟨_, _, rfl, hq _ F A H h0 .refl (isD_int.mpr rfl)⟩
  · cases h
theorem ca_min (hc : X.calm = true) : CaX G X (.builtin "min") minD := by
  intro ds S d S' h H F A vs h0 hv Q hq
  unfold minD at h
  split at h
  · cases h
    obtain ⟨v, w, rfl, h1, h2⟩ := isDs_two hv
    rw [isD_int] at h1 h2
    subst h1 h2
    exact SmC.of (call_min2 hc) ⟨_, _, rfl, hq _ F A H h0 .refl (isD_int.mpr rfl)⟩
  · cases h
end

/-! ### methods by data -/
section
variable {G : Wd} {X : Cx}
def isStrD : D → Store → Bool
  | .str _, _ => true
  | _, _ => false
def isPtrD (x : D) (S : Store) : Bool := match x with
  | .ptr _ => (seqD S x).isSome
  | _ => false
theorem isStr_ty {x : D} {S : Store} (h : isStrD x S = true) {F : Hp} {A : List Addr} {H : Hp} {v : V} (h0 : S0 G F A H S) (hx : IsD G F A x v) : tyV X.K "str" v H := by
  cases x with
  | str z =>
    rw [isD_str] at hx
    subst hx
    exact rfl
  | _ => simp [isStrD] at h
theorem isPtr_ty {x : D} {S : Store} (h : isPtrD x S = true) {F : Hp} {A : List Addr} {H : Hp} {v : V} (h0 : S0 G F A H S) (hx : IsD G F A x v) : tyV X.K "list" v H := by
  cases x with
  | ptr k =>
    simp only [isPtrD, Option.isSome_iff_exists] at h
    obtain ⟨ds, e⟩ := h
    obtain ⟨p, vs, rfl, a1, a2⟩ := seq_at h0 hx e
    exact .inl ⟨rfl, vs, SqL.of a1⟩
  | _ => simp [isPtrD] at h
def appendM : D → List D → Store → Option (D × Store)
  | .ptr k, [y], S => match S[k]? with
    | some (.lst ds) => if Nat.blt ds.length 16777216 then some (.non, S.set k (.lst (ds ++ [y]))) else none
    | _ => none
  | _, _, _ => none
theorem ptr_wr {F : Hp} {A : List Addr} {H : Hp} {S : Store} {k : Nat} {v : V} {ds es : List D} (h0 : S0 G F A H S) (hv : IsD G F A (.ptr k) v) (e : S[k]? = some (.lst ds)) : ∃ p vs, v = .ref p ∧ H p = some (.lst vs) ∧ IsDs G F A ds vs ∧ ∀ us, IsDs G F A es us → S0 G F A (upd H p (.lst us)) (S.set k (.lst es)) := by
  obtain ⟨p, vs, rfl, a1, a2⟩ := seq_at h0 hv (ds := ds) (by simp [seqD, e])
  have hv' : ∃ q, A[k]? = some q ∧ V.ref p = .ref q := by simpa only [IsD] using hv
  obtain ⟨q, hq, z⟩ := hv'
  cases z
  exact ⟨p, vs, rfl, a1, a2, fun us hu => h0.wr hq ⟨us, rfl, hu⟩ a1 (by intro ps z; cases z)⟩
theorem me_append : MeX G X "list" "list.append" appendM := by
  intro x ds S d S' h H F A v vs h0 hx hv Q hq
  unfold appendM at h
  split at h
  · rename_i k y
    split at h
    · rename_i xs e
      split at h
      · rename_i hl
        cases h
        obtain ⟨w, rfl, h1⟩ := isDs_one hv
        obtain ⟨p, us, rfl, a1, a2, a3⟩ := ptr_wr (es := xs ++ [y]) h0 hx e
        refine SmM.of mt_append ⟨p, us, w, rfl, rfl, a1, ?_, ?_⟩
        · rw [a2.len, sizeLine_eq]; exact Nat.le_of_ble_eq_true hl
        · exact hq _ F A _ (a3 _ (a2.append (isDs_cons.mpr ⟨w, [], rfl, h1, isDs_nil.mpr rfl⟩))) .refl (isD_non.mpr rfl)
      · cases h
    · cases h
  · cases h
def splitM (m : Bool) : D → List D → Store → Option (D × Store)
  | .str a, [.str b], S => if !(b.length == 0) && Nat.ble (a.length + 2) 16777216 then (if m then some (.ptr S.length, S ++ [.lst ((Txt.split a b).map D.str)]) else some (.lst ((Txt.split a b).map D.str), S)) else none
  | _, _, _ => none
theorem isDs_strs {F : Hp} {A : List Addr} : ∀ l : List Str, IsDs G F A (l.map D.str) (l.map V.str)
  | [] => isDs_nil.mpr rfl
  | z :: l => isDs_cons.mpr ⟨_, _, rfl, isD_str.mpr rfl, isDs_strs l⟩
theorem me_split {m : Bool} : MeX G X "str" "str.split" (splitM m) := by
  intro x ds S d S' h H F A v vs h0 hx hv Q hq
  unfold splitM at h
  split at h
  · rename_i a b
    split at h
    · rename_i hl
      simp only [Bool.and_eq_true, Bool.not_eq_true'] at hl
      obtain ⟨w, rfl, h1⟩ := isDs_one hv
      rw [isD_str] at hx h1
      subst hx h1
      refine SmM.of mt_split ⟨a, b, rfl, rfl, hl.1, by rw [sizeLine_eq]; exact Nat.le_of_ble_eq_true hl.2, fun p n => ?_⟩
      split at h
      · cases h
        exact ptr_end h0 (isDs_strs _) n hq
      · cases h
        exact lst_end h0 (isDs_strs _) n hq
    · cases h
  · cases h
def joinM : D → List D → Store → Option (D × Store)
  | .str a, [x], S => match (itsD S x).bind asStrs with
    | some l => if Nat.ble ((l.map (·.length)).sum + l.length * a.length) 16777216 then some (.str (Txt.join a l), S) else none
    | none => none
  | _, _, _ => none
theorem me_join (hK : X.K = G.K) : MeX G X "str" "str.join" joinM := by
  intro x ds S d S' h H F A v vs h0 hx hv Q hq
  unfold joinM at h
  split at h
  · rename_i a y
    split at h
    · rename_i l e
      split at h
      · rename_i hl
        cases h
        obtain ⟨w, rfl, h1⟩ := isDs_one hv
        rw [isD_str] at hx
        subst hx
        obtain ⟨es, e1, e2⟩ := Option.bind_eq_some_iff.mp e
        obtain ⟨p, us, rfl, a1, a2⟩ := its_at h0 h1 e1
        have := asStrs_ok e2 a2
        subst this
        exact SmM.of mt_join ⟨a, p, l, rfl, rfl, by rw [hK]; exact a1, Nat.le_of_ble_eq_true hl, hq _ F A H h0 .refl (isD_str.mpr rfl)⟩
      · cases h
    · cases h
  · cases h
end
end Z


set_option Elab.async false
set_option linter.all false
set_option maxRecDepth 100000
set_option maxHeartbeats 4000000
namespace Z
open PySem PySem.Spec PyProof.Rows L2
open LamX (Tabs TabS ExtN CodeO)

/-! ## texts with fields -/
def fmtD (x : D) (S : Store) : Option (D × Store) := match x with
  | .str z => if fits z.length then some (.str z, S) else none
  | .int i => if Nat.blt i.natAbs.log2 1920 then some (.str (its i), S) else none
  | _ => none
section
variable {G : Wd} {X : Cx} {W : WX} {ρ : Rho} {S : Store} {a b c e o : Expr} {es : List Expr} {pos p apos : Pos} {x : Str}
theorem ev_fmt {m : M D} (he : EvE G X W e ρ S m) : EvE G X W (.FormattedValue e (-1) none pos) ρ S (bnd m fun x S1 => lft (fmtD x S1)) := by
  intro r S' h σ H F A h0 hs Q hq
  refine SmE.of (pe_fmt smE) ?_
  show SmE X e σ H _
  refine he.bind h h0 hs (Q := Q) hq.err fun x S1 e1 e2 v F1 A1 H1 q0 g s1 q1 => ?_
  unfold fmtD at e2
  split at e2
  · split at e2
    · rename_i z hf
      cases e2
      rw [isD_str] at q1
      exact .inl ⟨z, q1, fits_of hf, hq _ F1 A1 H1 q0 g (isD_str.mpr rfl)⟩
    · cases e2
  · split at e2
    · rename_i i hf
      cases e2
      rw [isD_int] at q1
      exact .inr ⟨i, q1, Nat.le_of_ble_eq_true hf, hq _ F1 A1 H1 q0 g (isD_str.mpr rfl)⟩
    · cases e2
  · cases e2
def PostJ (G : Wd) (W : WX) (F : Hp) (A : List Addr) (σ : L2.St) (S' : Store) (Q : Str → Hp → Prop) : R Str → Prop
  | .ok z => ∀ F' A' H', S0 G F' A' H' S' → Gr F A F' A' → Q z H'
  | .err c d => ErrP G W F A σ S' c d
/-- the parts of a text, one behind the other -/
def EvJ (G : Wd) (X : Cx) (W : WX) (es : List Expr) (ρ : Rho) (acc : Str) (S : Store) (m : M Str) : Prop :=
  ∀ r S', m = some (r, S') → ∀ σ H F A, S0 G F A H S → Sl G F A σ ρ → ∀ Q, PostJ G W F A σ S' Q r → tJs (es.map (SmE X)) acc σ H Q
theorem ej_nil {acc : Str} : EvJ G X W [] ρ acc S (pur acc S) := by
  intro r S' h σ H F A h0 hs Q hq
  cases h
  exact hq F A H h0 .refl
def glue (acc : Str) (k : Str → Store → M Str) (x : D) (S : Store) : M Str := match x with
  | .str y => if fits (acc ++ y).length then k (acc ++ y) S else none
  | _ => none
theorem ej_cons {acc : Str} {m : M D} {k : Str → Store → M Str} (he : EvE G X W e ρ S m) (hk : ∀ acc' S1, EvJ G X W es ρ acc' S1 (k acc' S1)) : EvJ G X W (e :: es) ρ acc S (bnd m (glue acc k)) := by
  intro r S' h σ H F A h0 hs Q hq
  show SmE X e σ H _
  rcases bnd_some h with ⟨c, d, e1, e2⟩ | ⟨x, S1, e1, e2⟩
  · subst e2
    exact he _ _ e1 σ H F A h0 hs _ hq
  · refine he _ _ e1 σ H F A h0 hs _ fun v F1 A1 H1 q0 g q1 => ?_
    unfold glue at e2
    split at e2
    · split at e2
      · rename_i y hf
        rw [isD_str] at q1
        refine ⟨y, q1, fits_of hf, hk _ _ _ _ e2 σ H1 F1 A1 q0 (hs.gr g) Q ?_⟩
        cases r with
        | ok z => exact fun F' A' H' h0 g' => hq F' A' H' h0 (g.trans g')
        | err c d => exact ErrP.gr g hq
      · cases e2
    · cases e2
theorem pj_all : ∀ es : List Expr, PJ X es (es.map (SmE X))
  | [] => .nil
  | e :: es => .cons smE (pj_all es)
theorem ev_joined {v1 v2 : Expr} {rest : List Expr} {m : M Str} (h : EvJ G X W (v1 :: v2 :: rest) ρ Str.empty S m) : EvE G X W (.JoinedStr (v1 :: v2 :: rest) pos) ρ S (bnd m fun z S1 => pur (.str z) S1) := by
  intro r S' hr σ H F A h0 hs Q hq
  refine SmE.of (pe_joined (pj_all _)) ?_
  rcases bnd_some hr with ⟨c, d, e1, e2⟩ | ⟨x, S1, e1, e2⟩
  · subst e2
    exact h _ _ e1 σ H F A h0 hs _ hq
  · cases e2
    exact h _ _ e1 σ H F A h0 hs _ fun F' A' H' q0 g => hq _ F' A' H' q0 g (isD_str.mpr rfl)

/-! ## isinstance -/
def tyN (S : Store) : D → Option String
  | .non => some "NoneType"
  | .bl _ => some "bool"
  | .int _ => some "int"
  | .str _ => some "str"
  | .tup _ => some "tuple"
  | .lst _ => some "list"
  | .ptr k => match S[k]? with
    | some (.lst _) => some "list"
    | _ => none
  | .fn _ => none
  | .scr _ => none
def subT (a b : String) : Bool := a == b || (a == "bool" && b == "int")
def isTys : List String := ["NoneType", "bool", "int", "str", "tuple", "list"]
def asTys : List String := ["bool", "int", "str", "tuple", "list"]
theorem kit_all : (isTys.all fun a => asTys.all fun b => kitB a b == some (subT a b)) = true := by decide +kernel
theorem kit_one {K : PySem.W.Frag} {a b : String} (ha : a ∈ isTys) (hb : b ∈ asTys) : PySem.W.kitOne K (.type a) (.type b) = some (subT a b) := by
  have h := List.all_eq_true.mp (List.all_eq_true.mp kit_all a ha) b hb
  exact kit_ty (by simpa using h)
theorem kit_any {K : PySem.W.Frag} {a : String} (ha : a ∈ isTys) : ∀ (bs : List String), (∀ b ∈ bs, b ∈ asTys) → PySem.W.kitAny K (.type a) (bs.map Value.type) = some (bs.any (subT a))
  | [], _ => rfl
  | b :: bs, h => by
    rw [List.map_cons]
    refine kitAny_cons (b := subT a b) (kit_one ha (h b List.mem_cons_self)) (fun e => ?_) fun e => ?_
    · rw [kit_any ha bs fun c hc => h c (List.mem_cons_of_mem _ hc)]
      simp [e]
    · simp [e]
theorem tyx_of (hK : X.K = G.K) {F : Hp} {A : List Addr} {H : Hp} {d : D} {v : V} {t : String} (h0 : S0 G F A H S) (hv : IsD G F A d v) (ht : tyN S d = some t) : TyX X.K H v (.type t) ∧ t ∈ isTys := by
  cases d with
  | non => cases ht; rw [isD_non] at hv; subst hv; exact ⟨.base .non, by simp [isTys]⟩
  | bl b => cases ht; rw [isD_bl] at hv; subst hv; exact ⟨.base (.bl b), by simp [isTys]⟩
  | int b => cases ht; rw [isD_int] at hv; subst hv; exact ⟨.base (.int b), by simp [isTys]⟩
  | str b => cases ht; rw [isD_str] at hv; subst hv; exact ⟨.base (.str b), by simp [isTys]⟩
  | fn f => cases ht
  | scr f => cases ht
  | tup ds =>
    cases ht
    rw [isD_tup] at hv
    obtain ⟨p, vs, rfl, a1, a2⟩ := hv
    have gH : Gr F A H A := ⟨h0.sub, [], by simp⟩
    refine ⟨?_, by simp [isTys]⟩
    rcases gH.sqt a1 with (q | ⟨ob, q⟩) | ⟨ob, its, n, q1, q2, _⟩
    · exact .base (.tup q)
    · exact .fTuple q
    · exact .kTuple (by rw [hK]; exact q1) q2
  | lst ds =>
    cases ht
    obtain ⟨p, vs, rfl, a1, a2⟩ := seq_at h0 hv (ds := ds) rfl
    exact ⟨.base (.lst a1), by simp [isTys]⟩
  | ptr k =>
    simp only [tyN] at ht
    split at ht
    · rename_i ds e
      cases ht
      obtain ⟨p, vs, rfl, a1, a2⟩ := seq_at h0 hv (ds := ds) (by simp [seqD, e])
      exact ⟨.base (.lst a1), by simp [isTys]⟩
    · cases ht
/-- a type's name -/
def tyE (X : Cx) (T : String) : Expr → Prop
  | .Name x _ => Gl X x ∧ X.mg x = none ∧ bootBuiltins x = some (.type T) ∧ x ≠ "__name__" ∧ (x == ("__debug__" : Str)) = false
  | _ => False
theorem pe_tyE {T : String} {e : Expr} (h : tyE X T e) : PE X e (tC (.ty T)) := by
  cases e with
  | Name x p =>
    obtain ⟨h1, h2, h3, h4, h5⟩ := h
    exact pe_bltn h1 h2 h3 rfl h4 h5
  | _ => exact h.elim
def isiD (ts : List String) (x : D) (S : Store) : Option (D × Store) := (tyN S x).map fun t => (.bl (ts.any (subT t)), S)
theorem ev_isi {T : String} {c : Expr} (hK : X.K = G.K) (hT : T ∈ asTys) (hg : Gl X "isinstance") (hm : X.mg "isinstance" = none) (hv : bootBuiltins ("isinstance" : Str) = some (.builtin "isinstance")) {m : M D} (he : EvE G X W e ρ S m) (ht : tyE X T c) (hu : unStar e = true) :
    EvE G X W (.Call (.Name "isinstance" p) [e, c] [] pos) ρ S (bnd m fun x S1 => lft (isiD [T] x S1)) := by
  intro r S' h σ H F A h0 hs Q hq
  have uc : unStar c = true := by
    cases c with
    | Name x p => rfl
    | _ => exact ht.elim
  refine SmE.of (pe_callB (id := "isinstance") call_isi hg hm hv (pa_cons smE (pa_cons (pe_tyE ht) pa_nil (star_cons uc)) (star_cons hu)) (by decide) (by decide) (star_cons hu) (star_any (by simp [uc]))) ?_
  show SmE X e σ H _
  refine he.bind h h0 hs (Q := Q) hq.err fun x S1 e1 e2 v F1 A1 H1 q0 g s1 q1 => ?_
  cases hf : tyN S1 x with
  | none => simp [isiD, hf] at e2
  | some t =>
    simp only [isiD, hf, Option.map_some, lft_some] at e2
    cases e2
    obtain ⟨k1, k2⟩ := tyx_of hK q0 q1 hf
    refine ⟨v, .ty T, .type t, .type T, subT t T, rfl, .ty T, k1, kit_one k2 hT, ?_⟩
    have e3 : [T].any (subT t) = subT t T := by simp
    rw [e3] at hq
    exact hq _ F1 A1 H1 q0 g (isD_bl.mpr rfl)
theorem paired_ty : ∀ l : List String, Paired ClsV (l.map V.ty) (l.map Value.type)
  | [] => .nil
  | a :: l => .cons (.ty a) (paired_ty l)
/-- several types' names -/
inductive TyEs (X : Cx) : List Expr → List String → Prop where
  | nil : TyEs X [] []
  | cons {e : Expr} {T : String} {es : List Expr} {ts : List String} (h : tyE X T e) (r : TyEs X es ts) : TyEs X (e :: es) (T :: ts)
theorem pa_tys {es : List Expr} {ts : List String} (h : TyEs X es ts) : PA X es (fun σ H Q => Q (ts.map V.ty) H) := by
  induction h with
  | nil => exact pa_nil
  | @cons e T es ts h r ih =>
    refine ⟨fun pos pins s σ H Q I hq => ?_⟩
    have uc : unStar e = true := by
      cases e with
      | Name x p => rfl
      | _ => exact h.elim
    exact (pa_cons (pe_tyE h) ih (star_cons uc)).run pos pins s σ H Q I hq
theorem ev_isiT {ts : List String} {cs : List Expr} {k : Nat} {p2 : Pos} (hK : X.K = G.K) (hT : ∀ t ∈ ts, t ∈ asTys) (hg : Gl X "isinstance") (hm : X.mg "isinstance" = none) (hv : bootBuiltins ("isinstance" : Str) = some (.builtin "isinstance")) {m : M D} (he : EvE G X W e ρ S m) (ht : TyEs X cs ts) (hl : fits ts.length = true) (hu : unStar e = true) :
    EvE G X W (.Call (.Name "isinstance" p) [e, .Tuple cs k p2] [] pos) ρ S (bnd m fun x S1 => lft (isiD ts x S1)) := by
  intro r S' h σ H F A h0 hs Q hq
  refine SmE.of (pe_callB (id := "isinstance") call_isiT hg hm hv (pa_cons smE (pa_cons (pe_tup (pa_tys ht)) pa_nil rfl) (star_cons hu)) (by decide) (by decide) (star_cons hu) rfl) ?_
  show SmE X e σ H _
  refine he.bind h h0 hs (Q := Q) hq.err fun x S1 e1 e2 v F1 A1 H1 q0 g s1 q1 => ?_
  cases hf : tyN S1 x with
  | none => simp [isiD, hf] at e2
  | some t =>
    simp only [isiD, hf, Option.map_some, lft_some] at e2
    cases e2
    refine ⟨by simpa using fits_of hl, fun q n => ?_⟩
    obtain ⟨h2, g2⟩ := q0.frz (o := .tup (ts.map V.ty)) n (by intro ps z; cases z)
    obtain ⟨k1, k2⟩ := tyx_of hK h2 (q1.gr g2) hf
    exact ⟨v, q, ts.map V.ty, .type t, ts.map Value.type, ts.any (subT t), rfl, upd_same, paired_ty ts, k1, kit_any k2 ts hT, hq _ _ A1 _ h2 (g.trans g2) (isD_bl.mpr rfl)⟩
end

/-! ## calls of defs -/
/-- a def's promise -/
def FnSp (B : Bd) (n : Nat) (f : Fn) : Sp := fun vs H Q E => ∃ (pin : Hp) (ds : List D) (S : Store) (F : Hp) (A : List Addr) (r : R D) (S' : Store),
  S0 ⟨B, pin⟩ F A H S ∧ IsDs B F A ds vs ∧ ds.length = n ∧ f ds S = some (r, S') ∧
    match r with
    | .ok d => ∀ v F' A' H', S0 ⟨B, pin⟩ F' A' H' S' → Gr F A F' A' → IsD B F' A' d v → Q v H'
    | .err c d => ∀ C dd v F' A' H', S0 ⟨B, pin⟩ F' A' H' S' → Gr F A F' A' → B.mg c = some (.ref C) → F' dd = some (.xd [(fld c, v)]) → IsD B F' A' d v → E (.ref C) (some dd) H'
/-- the def of the module under the name x does what f says -/
def FnLink (B : Bd) (k : Nat) (x : Str) (n : Nat) (f : Fn) : Prop :=
  ∃ (a : Addr) (fd : FuncData) (ps : List Str), ps.length = n ∧ FnOk B.P B.w B.K B.mg B.base (L2.CX B.P B.w) k a fd ps (FnSp B n f) ∧ B.mg x = some (.ref a) ∧ PySem.W.keepIn B.K (.ref a) = true ∧ Binds B.K fd ps []
theorem FnLink.mono {B : Bd} {j k : Nat} {x : Str} {n : Nat} {f : Fn} (h : FnLink B j x n f) (le : j ≤ k) : FnLink B k x n f := by
  obtain ⟨a, fd, ps, h1, h2, h3⟩ := h
  exact ⟨a, fd, ps, h1, h2.mono le, h3⟩
/-- the context is of the ground -/
structure On (B : Bd) (X : Cx) : Prop where
  prog : X.prog = B.P
  w : X.w = B.w
  K : X.K = B.K
  mg : X.mg = B.mg
  base : X.base = B.base
section
variable {G : Wd} {X : Cx} {W : WX} {ρ : Rho} {S : Store} {a b c e o : Expr} {es : List Expr} {pos p apos : Pos} {x : Str}
theorem ev_call {k n : Nat} {f : Fn} {m : M (List D)} (on : On G X) (hr : Room k X.A) (tk : Takes X W) (L : FnLink G k x n f) (hg : Gl X x) (ha : EvA G X W (e :: es) ρ S m) (hs : (e :: es).all unStar = true) (hdb : (x == ("__debug__" : Str)) = false) :
    EvE G X W (.Call (.Name x p) (e :: es) [] pos) ρ S (bnd m fun ds S1 => if ds.length = n then f ds S1 else none) := by
  intro r S' h σ H F A h0 hsl Q hq pins s I
  simp only [List.all_cons, Bool.and_eq_true] at hs
  obtain ⟨a, fd, ps, l1, l2, l3, l4, l5⟩ := L
  have l2' : FnOk X.prog X.w X.K X.mg X.base (L2.CX X.prog X.w) k a fd ps (FnSp G n f) := by
    rw [on.prog, on.w, on.K, on.mg, on.base]; exact l2
  have hlen : σ.length = X.N.length := I.len
  refine SmE.of (pe_call (dvs := []) (ds := []) (E := fun cls d H => ∀ σ', σ'.length = σ.length → W cls d σ' H) l2' hr hg (by rw [on.mg]; exact l3) (by rw [on.K]; exact l4) (by rw [on.K]; exact l5) .nil
    (fun pins' σ' H' s' e' s'' I' c => tk e' s'' (XE.of_call I' (fun cls d H'' h => h σ' (by rw [hlen]; exact I'.len)) c)) smA hdb (star_cons hs.1) (star_any hs.2)) ?_ pins s I
  show SmA X (e :: es) σ H _
  rcases bnd_some h with ⟨c, d, e1, e2⟩ | ⟨ds, S1, e1, e2⟩
  · subst e2
    exact ha _ _ e1 σ H F A h0 hsl _ hq
  · refine ha _ _ e1 σ H F A h0 hsl _ fun vs F1 A1 H1 q0 g q1 => ?_
    split at e2
    · rename_i hl
      rw [List.append_nil]
      refine ⟨G.pin, ds, S1, F1, A1, r, S', q0, q1, hl, e2, ?_⟩
      cases r with
      | ok d => exact fun v F' A' H' h1 g1 h2 => hq v F' A' H' h1 (g.trans g1) h2
      | err c d => exact fun C dd v F' A' H' h1 g1 h2 h3 h4 σ' hσ => hq C dd v F' A' H' σ' hσ h1 (g.trans g1) h2 h3 h4
    · cases e2
theorem ev_call0 {k : Nat} {f : Fn} (on : On G X) (hr : Room k X.A) (tk : Takes X W) (L : FnLink G k x 0 f) (hg : Gl X x) (hdb : (x == ("__debug__" : Str)) = false) :
    EvE G X W (.Call (.Name x p) [] [] pos) ρ S (f [] S) := by
  intro r S' h σ H F A h0 hsl Q hq pins s I
  obtain ⟨a, fd, ps, l1, l2, l3, l4, l5⟩ := L
  have l2' : FnOk X.prog X.w X.K X.mg X.base (L2.CX X.prog X.w) k a fd ps (FnSp G 0 f) := by
    rw [on.prog, on.w, on.K, on.mg, on.base]; exact l2
  have hlen : σ.length = X.N.length := I.len
  refine SmE.of (pe_call0 (dvs := []) (ds := []) (E := fun cls d H => ∀ σ', σ'.length = σ.length → W cls d σ' H) l2' hr hg (by rw [on.mg]; exact l3) (by rw [on.K]; exact l4) (by rw [on.K]; exact l5) .nil
    (fun pins' σ' H' s' e' s'' I' c => tk e' s'' (XE.of_call I' (fun cls d H'' h => h σ' (by rw [hlen]; exact I'.len)) c)) hdb) ?_ pins s I
  refine ⟨G.pin, [], S, F, A, r, S', h0, isDs_nil.mpr rfl, rfl, h, ?_⟩
  cases r with
  | ok d => exact fun v F' A' H' h1 g1 h2 => hq v F' A' H' h1 g1 h2
  | err c d => exact fun C dd v F' A' H' h1 g1 h2 h3 h4 σ' hσ => hq C dd v F' A' H' σ' hσ h1 g1 h2 h3 h4
end
end Z


set_option Elab.async false
set_option linter.all false
set_option maxRecDepth 100000
set_option maxHeartbeats 4000000
namespace Z
open PySem PySem.Spec PyProof.Rows L2
open LamX (Tabs TabS ExtN CodeO)

/-! ## what is walked -/
mutual
def eqD' : D → D → Bool
  | .non, .non => true
  | .bl a, .bl b => a == b
  | .int a, .int b => a == b
  | .str a, .str b => decide (a = b)
  | .fn a, .fn b => decide (a = b)
  | .tup a, .tup b => eqDs a b
  | .lst a, .lst b => eqDs a b
  | .ptr a, .ptr b => a == b
  | .scr a, .scr b => decide (a = b)
  | _, _ => false
def eqDs : List D → List D → Bool
  | [], [] => true
  | a :: r, b :: s => eqD' a b && eqDs r s
  | _, _ => false
end
mutual
theorem eqD_ok : ∀ a b : D, eqD' a b = true → a = b
  | .non, b, h => by cases b <;> simp_all [eqD']
  | .bl x, b, h => by cases b <;> simp_all [eqD']
  | .int x, b, h => by cases b <;> simp_all [eqD']
  | .str x, b, h => by cases b <;> simp_all [eqD']
  | .fn x, b, h => by cases b <;> simp_all [eqD']
  | .ptr x, b, h => by cases b <;> simp_all [eqD']
  | .scr x, b, h => by cases b <;> simp_all [eqD']
  | .tup x, b, h => by
    cases b with
    | tup y => rw [eqDs_ok x y (by simpa [eqD'] using h)]
    | _ => simp [eqD'] at h
  | .lst x, b, h => by
    cases b with
    | lst y => rw [eqDs_ok x y (by simpa [eqD'] using h)]
    | _ => simp [eqD'] at h
theorem eqDs_ok : ∀ a b : List D, eqDs a b = true → a = b
  | [], b, h => by cases b <;> simp_all [eqDs]
  | x :: r, b, h => by
    cases b with
    | nil => simp [eqDs] at h
    | cons y s =>
      simp only [eqDs, Bool.and_eq_true] at h
      rw [eqD_ok x y h.1, eqDs_ok r s h.2]
end
mutual
theorem eqD_refl : ∀ a : D, eqD' a a = true
  | .non => by simp [eqD']
  | .bl x => by simp [eqD']
  | .int x => by simp [eqD']
  | .str x => by simp [eqD']
  | .fn x => by simp [eqD']
  | .ptr x => by simp [eqD']
  | .scr x => by simp [eqD']
  | .tup x => by simp [eqD', eqDs_refl x]
  | .lst x => by simp [eqD', eqDs_refl x]
theorem eqDs_refl : ∀ a : List D, eqDs a a = true
  | [] => by simp [eqDs]
  | x :: r => by simp [eqDs, eqD_refl x, eqDs_refl r]
end
/-- the items, and what must stay while they are walked -/
structure Wk where
  items : List D
  stay : Store → Bool
def stayD (k : Nat) (ds : List D) (S : Store) : Bool := match S[k]? with
  | some (.lst es) => eqDs es ds
  | _ => false
def seqW (x : D) (S : Store) : Option Wk := match x with
  | .tup ds => some ⟨ds, fun _ => true⟩
  | .lst ds => some ⟨ds, fun _ => true⟩
  | .str z => some ⟨z.cps.toList.map fun c => .str ⟨#[c]⟩, fun _ => true⟩
  | .ptr k => match S[k]? with
    | some (.lst ds) => some ⟨ds, stayD k ds⟩
    | _ => none
  | _ => none
/-- a list's -/
def lstW (x : D) (S : Store) : Option Wk := match x with
  | .lst ds => some ⟨ds, fun _ => true⟩
  | .ptr k => match S[k]? with
    | some (.lst ds) => some ⟨ds, stayD k ds⟩
    | _ => none
  | _ => none
def enumD : Nat → List D → List D
  | _, [] => []
  | i, d :: ds => .tup [.int (i : Nat), d] :: enumD (i + 1) ds
theorem enumD_len : ∀ (ds : List D) (i : Nat), (enumD i ds).length = ds.length
  | [], _ => rfl
  | d :: ds, i => by rw [enumD, List.length_cons, List.length_cons, enumD_len ds]
theorem enumD_get : ∀ (ds : List D) (i j : Nat), (enumD i ds)[j]? = (ds[j]?).map fun d => D.tup [.int ((i + j : Nat) : Int), d]
  | [], _, _ => rfl
  | d :: ds, i, 0 => rfl
  | d :: ds, i, j + 1 => by
    rw [enumD, List.getElem?_cons_succ, List.getElem?_cons_succ, enumD_get ds (i + 1) j]
    congr 3
    funext z
    congr 4
    omega
def zipD : List D → List D → List D
  | x :: xs, y :: ys => .tup [x, y] :: zipD xs ys
  | _, _ => []
theorem zipD_len : ∀ xs ys : List D, (zipD xs ys).length = min xs.length ys.length
  | [], _ => by simp [zipD]
  | _ :: _, [] => by simp [zipD]
  | x :: xs, y :: ys => by simp [zipD, zipD_len xs ys]
theorem zipD_get : ∀ (xs ys : List D) (i : Nat) (d : D), (zipD xs ys)[i]? = some d → ∃ x y, xs[i]? = some x ∧ ys[i]? = some y ∧ d = .tup [x, y]
  | [], _, _, _, h => by simp [zipD] at h
  | _ :: _, [], _, _, h => by simp [zipD] at h
  | x :: xs, y :: ys, 0, d, h => by
    simp [zipD] at h
    exact ⟨x, y, rfl, rfl, h.symm⟩
  | x :: xs, y :: ys, i + 1, d, h => by
    obtain ⟨a, b, h1, h2, h3⟩ := zipD_get xs ys i d (by simpa [zipD] using h)
    exact ⟨a, b, by simpa using h1, by simpa using h2, h3⟩
def rangeD (lo : Int) (n : Nat) : List D := (List.range n).map fun i => .int (lo + (i : Nat))
def rangeC (lo c : Int) (n : Nat) : List D := (List.range n).map fun i => .int (lo + (i : Nat) * c)

/-- the walk J yields these items while the thing stays -/
def WkD (B : Bd) (F0 : Hp) (A0 : List Addr) (J : It) (w : Wk) : Prop := ∀ pin F A H S, S0 ⟨B, pin⟩ F A H S → Gr F0 A0 F A → w.stay S = true →
  (∀ i d, w.items[i]? = some d → J.go i H ∧ ∀ x H', J.yld i H x H' → ∃ F', S0 ⟨B, pin⟩ F' A H' S ∧ Gr F A F' A ∧ IsD B F' A d x) ∧ J.stop w.items.length H
section
variable {B : Bd} {F0 : Hp} {A0 : List Addr} {p q : Addr} {w : Wk} {K : PySem.W.Frag}
theorem wk_itl (hg : ∀ pin F A H S, S0 ⟨B, pin⟩ F A H S → Gr F0 A0 F A → w.stay S = true → ∃ vs, SqL K H p vs ∧ IsDs B F A w.items vs) : WkD B F0 A0 (Itl K p) w := by
  intro pin F A H S h0 g st
  obtain ⟨vs, h1, h2⟩ := hg pin F A H S h0 g st
  refine ⟨fun i d e => ?_, vs, h1, by rw [h2.len]; exact Nat.le_refl _⟩
  obtain ⟨v, e1, e2⟩ := h2.get e
  refine ⟨⟨vs, v, h1, e1⟩, fun x H' y => ?_⟩
  obtain ⟨rfl, y2⟩ := y
  have := y2 vs h1
  rw [e1] at this
  cases this
  exact ⟨F, h0, .refl, e2⟩
theorem wk_itt (hg : ∀ pin F A H S, S0 ⟨B, pin⟩ F A H S → Gr F0 A0 F A → w.stay S = true → ∃ vs, SqT K H p vs ∧ IsDs B F A w.items vs) : WkD B F0 A0 (Itt K p) w := by
  intro pin F A H S h0 g st
  obtain ⟨vs, h1, h2⟩ := hg pin F A H S h0 g st
  refine ⟨fun i d e => ?_, vs, h1, by rw [h2.len]; exact Nat.le_refl _⟩
  obtain ⟨v, e1, e2⟩ := h2.get e
  refine ⟨⟨vs, v, h1, e1⟩, fun x H' y => ?_⟩
  obtain ⟨rfl, y2⟩ := y
  have := y2 vs h1
  rw [e1] at this
  cases this
  exact ⟨F, h0, .refl, e2⟩
theorem wk_its {z : Str} : WkD B F0 A0 (Its z) ⟨z.cps.toList.map fun c => .str ⟨#[c]⟩, fun _ => true⟩ := by
  intro pin F A H S h0 g st
  refine ⟨fun i d e => ?_, by simp [Its]⟩
  have e' : (z.cps.toList.map fun c => D.str ⟨#[c]⟩)[i]? = some d := e
  rw [List.getElem?_map, Option.map_eq_some_iff] at e'
  obtain ⟨c, e1, rfl⟩ := e'
  have e2 : z.cps[i]? = some c := by simpa using e1
  refine ⟨(Array.getElem?_eq_some_iff.mp e2).1, fun x H' y => ?_⟩
  obtain ⟨rfl, c', y1, y2⟩ := y
  rw [e2] at y1
  cases y1
  exact ⟨F, h0, .refl, isD_str.mpr y2⟩
theorem wk_itr {lo : Int} {n : Nat} : WkD B F0 A0 (Itr lo n) ⟨rangeD lo n, fun _ => true⟩ := by
  intro pin F A H S h0 g st
  refine ⟨fun i d e => ?_, by simp [Itr, rangeD]⟩
  have e' : ((List.range n).map fun (i : Nat) => D.int (lo + (i : Nat)))[i]? = some d := e
  rw [List.getElem?_map, Option.map_eq_some_iff] at e'
  obtain ⟨j, e1, rfl⟩ := e'
  obtain ⟨hj, e2⟩ := List.getElem?_eq_some_iff.mp e1
  simp at hj e2
  subst e2
  refine ⟨hj, fun x H' y => ?_⟩
  obtain ⟨rfl, y2⟩ := y
  exact ⟨F, h0, .refl, isD_int.mpr y2⟩
theorem wk_itc {lo c : Int} {n : Nat} : WkD B F0 A0 (Itc lo c n) ⟨rangeC lo c n, fun _ => true⟩ := by
  intro pin F A H S h0 g st
  refine ⟨fun i d e => ?_, by simp [Itc, rangeC]⟩
  have e' : ((List.range n).map fun (i : Nat) => D.int (lo + (i : Nat) * c))[i]? = some d := e
  rw [List.getElem?_map, Option.map_eq_some_iff] at e'
  obtain ⟨j, e1, rfl⟩ := e'
  obtain ⟨hj, e2⟩ := List.getElem?_eq_some_iff.mp e1
  simp at hj e2
  subst e2
  refine ⟨hj, fun x H' y => ?_⟩
  obtain ⟨rfl, y2⟩ := y
  exact ⟨F, h0, .refl, isD_int.mpr y2⟩
/-- a new pair -/
theorem pair_frz {pin : Hp} {F : Hp} {A : List Addr} {H : Hp} {S : Store} {T : Addr} {x y : D} {v u : V} (h0 : S0 ⟨B, pin⟩ F A H S) (n : H T = none) (hx : IsD B F A x v) (hy : IsD B F A y u) :
    ∃ F', S0 ⟨B, pin⟩ F' A (upd H T (.tup [v, u])) S ∧ Gr F A F' A ∧ IsD B F' A (.tup [x, y]) (.ref T) := by
  obtain ⟨h1, g⟩ := h0.frz (o := .tup [v, u]) n (by intro ps z; cases z)
  refine ⟨_, h1, g, isD_tup.mpr ⟨T, [v, u], rfl, SqT.of upd_same, ?_⟩⟩
  exact isDs_cons.mpr ⟨v, [u], rfl, hx.gr g, isDs_cons.mpr ⟨u, [], rfl, hy.gr g, isDs_nil.mpr rfl⟩⟩
theorem wk_ite (hg : ∀ pin F A H S, S0 ⟨B, pin⟩ F A H S → Gr F0 A0 F A → w.stay S = true → ∃ vs, SqL K H p vs ∧ IsDs B F A w.items vs) : WkD B F0 A0 (Ite K p) ⟨enumD 0 w.items, w.stay⟩ := by
  intro pin F A H S h0 g st
  obtain ⟨vs, h1, h2⟩ := hg pin F A H S h0 g st
  refine ⟨fun i d e => ?_, vs, h1, by rw [h2.len, enumD_len]; exact Nat.le_refl _⟩
  have e' : (enumD 0 w.items)[i]? = some d := e
  rw [enumD_get, Option.map_eq_some_iff] at e'
  obtain ⟨d', e3, rfl⟩ := e'
  obtain ⟨v, e1, e2⟩ := h2.get e3
  refine ⟨⟨vs, v, h1, e1⟩, fun x H' y => ?_⟩
  obtain ⟨T, x', rfl, n, rfl, y2⟩ := y
  have := y2 vs h1
  rw [e1] at this
  cases this
  rw [Nat.zero_add]
  exact pair_frz h0 n (isD_int.mpr rfl) e2
theorem wk_itz {w2 : Wk} (hg : ∀ pin F A H S, S0 ⟨B, pin⟩ F A H S → Gr F0 A0 F A → w.stay S = true → ∃ vs, SqL K H p vs ∧ IsDs B F A w.items vs)
    (hg2 : ∀ pin F A H S, S0 ⟨B, pin⟩ F A H S → Gr F0 A0 F A → w2.stay S = true → ∃ vs, SqL K H q vs ∧ IsDs B F A w2.items vs) : WkD B F0 A0 (Itz K p q) ⟨zipD w.items w2.items, fun S => w.stay S && w2.stay S⟩ := by
  intro pin F A H S h0 g st
  have st' : (w.stay S && w2.stay S) = true := st
  rw [Bool.and_eq_true] at st'
  obtain ⟨vs, h1, h2⟩ := hg pin F A H S h0 g st'.1
  obtain ⟨us, k1, k2⟩ := hg2 pin F A H S h0 g st'.2
  refine ⟨fun i d e => ?_, vs, us, h1, k1, ?_⟩
  · obtain ⟨x, y, e1, e2, rfl⟩ := zipD_get _ _ _ _ e
    obtain ⟨v, e3, e4⟩ := h2.get e1
    obtain ⟨u, e5, e6⟩ := k2.get e2
    refine ⟨⟨vs, us, v, u, h1, k1, e3, e5⟩, fun x H' y => ?_⟩
    obtain ⟨T, x', z', rfl, n, rfl, y2, y3⟩ := y
    have z1 := y2 vs h1
    have z2 := y3 us k1
    rw [e3] at z1
    rw [e5] at z2
    cases z1
    cases z2
    exact pair_frz h0 n e4 e6
  · have e1 := h2.len
    have e2 := k2.len
    show vs.length ≤ (zipD w.items w2.items).length ∨ us.length ≤ (zipD w.items w2.items).length
    rw [zipD_len]
    omega
end
section
variable {G : Wd} {S : Store} {F : Hp} {A : List Addr} {H : Hp} {x : D} {v : V} {w : Wk}
/-- a list keeps its items -/
theorem lst_hg {K : PySem.W.Frag} (h0 : S0 G F A H S) (hx : IsD G F A x v) (h : lstW x S = some w) : ∃ p, v = .ref p ∧ (∃ vs, H p = some (.lst vs)) ∧ ∀ pin F' A' H' S', S0 ⟨G.toBd, pin⟩ F' A' H' S' → Gr F A F' A' → w.stay S' = true → ∃ vs, SqL K H' p vs ∧ IsDs G F' A' w.items vs := by
  unfold lstW at h
  split at h
  · rename_i ds
    cases h
    rw [isD_lst] at hx
    obtain ⟨p, vs, rfl, a1, a2⟩ := hx
    refine ⟨p, rfl, ⟨vs, h0.sub _ _ a1⟩, fun pin F' A' H' S' h1 g st => ⟨vs, SqL.of (h1.sub _ _ (g.ex _ _ a1)), a2.gr g⟩⟩
  · rename_i k
    split at h
    · rename_i ds e
      cases h
      obtain ⟨p, vs, rfl, a1, a2⟩ := seq_at h0 hx (ds := ds) (by simp [seqD, e])
      refine ⟨p, rfl, ⟨vs, a1⟩, fun pin F' A' H' S' h1 g st => ?_⟩
      have st' : stayD k ds S' = true := st
      unfold stayD at st'
      split at st'
      · rename_i es e2
        have := eqDs_ok _ _ st'
        subst this
        obtain ⟨q, us, z, b1, b2⟩ := seq_at (ds := es) h1 (hx.gr g) (by simp [seqD, e2])
        cases z
        exact ⟨us, SqL.of b1, b2⟩
      · cases st'
    · cases h
  · cases h
end

/-! ### the judgement of what is walked -/
def SmI (X : Cx) (tg iter : Expr) : TI := fun σ H R => ∀ pins s, Inv X pins σ H s →
  wpAny (model X.prog X.w) X.A (eval iter X.env) (fun v s1 => wpAny (model X.prog X.w) X.A (pyIter v) (PIE X pins σ tg R) X.xe s1) X.xe s
theorem smI {X : Cx} {tg iter : Expr} : PI X tg iter (SmI X tg iter) := ⟨fun pins s σ H R I h => h pins s I⟩
theorem SmI.of {X : Cx} {tg iter : Expr} {wi : TI} (h : PI X tg iter wi) {σ : L2.St} {H : Hp} {R : It → Hp → Prop} (q : wi σ H R) : SmI X tg iter σ H R := fun pins s I => h.run pins s σ H R I q
def PostI (G : Wd) (W : WX) (F : Hp) (A : List Addr) (σ : L2.St) (S' : Store) (R' : It → Hp → Prop) : R Wk → Prop
  | .ok w => ∀ J F' A' H', S0 G F' A' H' S' → Gr F A F' A' → WkD G F' A' J w → R' J H'
  | .err c d => ErrP G W F A σ S' c d
def EvI (G : Wd) (X : Cx) (W : WX) (tg iter : Expr) (ρ : Rho) (S : Store) (m : M Wk) : Prop :=
  ∀ r S', m = some (r, S') → ∀ σ H F A, S0 G F A H S → Sl G F A σ ρ → ∀ R', PostI G W F A σ S' R' r → SmI X tg iter σ H R'
/-- a value by the way -/
def wkM (f : D → Store → Option Wk) (x : D) (S : Store) : M Wk := (f x S).elim none fun w => pur w S
section
variable {G : Wd} {X : Cx} {W : WX} {ρ : Rho} {S : Store} {a b c e o tg : Expr} {es : List Expr} {pos p apos : Pos} {x : Str}
theorem ei_seq {m : M D} (hK : X.K = G.K) (he : EvE G X W e ρ S m) : EvI G X W tg e ρ S (bnd m (wkM seqW)) := by
  intro r S' h σ H F A h0 hs R' hq
  rcases bnd_some h with ⟨c, d, e1, e2⟩ | ⟨x, S1, e1, e2⟩
  · subst e2
    refine SmI.of (pi_tup smE) ?_
    exact he _ _ e1 σ H F A h0 hs _ hq
  · unfold wkM seqW at e2
    split at e2
    · rename_i ds
      cases e2
      refine SmI.of (pi_tup smE) (he _ _ e1 σ H F A h0 hs _ fun v F1 A1 H1 q0 g q1 => ?_)
      have q1' := q1
      rw [isD_tup] at q1
      obtain ⟨p, vs, rfl, a1, a2⟩ := q1
      have gH : Gr F1 A1 H1 A1 := ⟨q0.sub, [], by simp⟩
      refine ⟨p, rfl, ⟨vs, by rw [hK]; exact gH.sqt a1⟩, hq _ F1 A1 H1 q0 g (wk_itt fun pin F' A' H' S' h1 g1 st => ⟨vs, ?_, a2.gr g1⟩)⟩
      have g2 : Gr F' A' H' A' := ⟨h1.sub, [], by simp⟩
      rw [hK]
      exact g2.sqt (g1.sqt a1)
    · rename_i ds
      cases e2
      refine SmI.of (pi_list smE) (he _ _ e1 σ H F A h0 hs _ fun v F1 A1 H1 q0 g q1 => ?_)
      obtain ⟨p, rfl, ⟨vs, hp⟩, hh⟩ := lst_hg (w := ⟨ds, fun _ => true⟩) (K := X.K) q0 q1 rfl
      exact ⟨p, rfl, ⟨vs, SqL.of hp⟩, hq _ F1 A1 H1 q0 g (wk_itl hh)⟩
    · rename_i z
      cases e2
      refine SmI.of (pi_str smE) (he _ _ e1 σ H F A h0 hs _ fun v F1 A1 H1 q0 g q1 => ?_)
      rw [isD_str] at q1
      exact ⟨z, q1, hq _ F1 A1 H1 q0 g wk_its⟩
    · split at e2
      · rename_i k _ ds e
        cases e2
        refine SmI.of (pi_list smE) (he _ _ e1 σ H F A h0 hs _ fun v F1 A1 H1 q0 g q1 => ?_)
        obtain ⟨p, rfl, ⟨vs, hp⟩, hh⟩ := lst_hg (w := ⟨ds, stayD k ds⟩) (K := X.K) q0 q1 (by simp [lstW, e])
        exact ⟨p, rfl, ⟨vs, SqL.of hp⟩, hq _ F1 A1 H1 q0 g (wk_itl hh)⟩
      · cases e2
    · cases e2
theorem star_one {e : Expr} {env : Env} (h : unStar e = true) : starEach [e] env = [(false, eval e env)] := by rw [star_cons h]; rfl
theorem ei_enum {elts : List Expr} {kk : Nat} {tpos : Pos} {m : M D} (hg : Gl X "enumerate") (hm : X.mg "enumerate" = none) (he : EvE G X W e ρ S m) (hu : unStar e = true) :
    EvI G X W (.Tuple elts kk tpos) (.Call (.Name "enumerate" p) [e] [] pos) ρ S (bnd m (wkM fun x S1 => (lstW x S1).map fun w => ⟨enumD 0 w.items, w.stay⟩)) := by
  intro r S' h σ H F A h0 hs R' hq
  refine SmI.of (pi_enum hg hm (pa_cons smE pa_nil (star_cons hu)) (star_one hu)) ?_
  show SmE X e σ H _
  rcases bnd_some h with ⟨c, d, e1, e2⟩ | ⟨x, S1, e1, e2⟩
  · subst e2
    exact he _ _ e1 σ H F A h0 hs _ hq
  · refine he _ _ e1 σ H F A h0 hs _ fun v F1 A1 H1 q0 g q1 => ?_
    unfold wkM at e2
    cases hw : lstW x S1 with
    | none => simp [hw] at e2
    | some w =>
      simp only [hw, Option.map_some, Option.elim_some] at e2
      cases e2
      obtain ⟨p, rfl, ⟨vs, hp⟩, hh⟩ := lst_hg (K := X.K) q0 q1 hw
      exact ⟨p, vs, rfl, SqL.of hp, hq _ F1 A1 H1 q0 g (wk_ite hh)⟩
def smallI (i : Int) : Bool := decide (-(2 ^ 62) ≤ i) && decide (i < 2 ^ 62)
def rng1 : List D → Store → M Wk
  | [.int j], S => if smallI j then pur ⟨rangeD 0 j.toNat, fun _ => true⟩ S else none
  | _, _ => none
def rng2 : List D → Store → M Wk
  | [.int i, .int j], S => if smallI i && smallI j then pur ⟨rangeD i (j - i).toNat, fun _ => true⟩ S else none
  | _, _ => none
theorem ei_rng1 {m : M (List D)} (hg : Gl X "range") (hm : X.mg "range" = none) (ha : EvA G X W [a] ρ S m) (hu : unStar a = true) : EvI G X W tg (.Call (.Name "range" p) [a] [] pos) ρ S (bnd m rng1) := by
  intro r S' h σ H F A h0 hs R' hq
  refine SmI.of (pi_range1 hg hm smA (star_one hu)) ?_
  show SmA X [a] σ H _
  rcases bnd_some h with ⟨c, d, e1, e2⟩ | ⟨ds, S1, e1, e2⟩
  · subst e2
    exact ha _ _ e1 σ H F A h0 hs _ hq
  · refine ha _ _ e1 σ H F A h0 hs _ fun vs F1 A1 H1 q0 g q1 => ?_
    unfold rng1 at e2
    split at e2
    · split at e2
      · rename_i j hj
        cases e2
        obtain ⟨v, rfl, h1⟩ := isDs_one q1
        rw [isD_int] at h1
        subst h1
        simp only [smallI, Bool.and_eq_true, decide_eq_true_eq] at hj
        exact ⟨j, rfl, hj.1, hj.2, hq _ F1 A1 H1 q0 g wk_itr⟩
      · cases e2
    · cases e2
theorem ei_rng2 {m : M (List D)} (hg : Gl X "range") (hm : X.mg "range" = none) (ha : EvA G X W [a, b] ρ S m) (hu : unStar a = true) (hu2 : unStar b = true) : EvI G X W tg (.Call (.Name "range" p) [a, b] [] pos) ρ S (bnd m rng2) := by
  intro r S' h σ H F A h0 hs R' hq
  refine SmI.of (pi_range2 hg hm smA (by rw [star_cons hu, star_one hu2]) (star_one hu2)) ?_
  show SmA X [a, b] σ H _
  rcases bnd_some h with ⟨c, d, e1, e2⟩ | ⟨ds, S1, e1, e2⟩
  · subst e2
    exact ha _ _ e1 σ H F A h0 hs _ hq
  · refine ha _ _ e1 σ H F A h0 hs _ fun vs F1 A1 H1 q0 g q1 => ?_
    unfold rng2 at e2
    split at e2
    · split at e2
      · rename_i i j hj
        cases e2
        obtain ⟨v, w, rfl, h1, h2⟩ := isDs_two q1
        rw [isD_int] at h1 h2
        subst h1 h2
        simp only [smallI, Bool.and_eq_true, decide_eq_true_eq] at hj
        exact ⟨i, j, rfl, ⟨hj.1.1, hj.1.2, hj.2.1, hj.2.2⟩, hq _ F1 A1 H1 q0 g wk_itr⟩
      · cases e2
    · cases e2
theorem ei_zip {elts : List Expr} {kk : Nat} {tpos : Pos} {m : M D} {m2 : Store → M D} (hg : Gl X "zip") (hm : X.mg "zip" = none) (ha : EvE G X W a ρ S m) (hb : ∀ S1, EvE G X W b ρ S1 (m2 S1)) (hu : unStar a = true) (hu2 : unStar b = true) :
    EvI G X W (.Tuple elts kk tpos) (.Call (.Name "zip" p) [a, b] [] pos) ρ S (bnd m fun x S1 => bnd (m2 S1) fun y S2 => match lstW x S2, lstW y S2 with
      | some w1, some w2 => pur ⟨zipD w1.items w2.items, fun S => w1.stay S && w2.stay S⟩ S2
      | _, _ => none) := by
  intro r S' h σ H F A h0 hs R' hq
  refine SmI.of (pi_zip hg hm (pa_cons smE (pa_cons smE pa_nil (star_cons hu2)) (star_cons hu)) (by rw [star_cons hu]) (star_any (by simp [hu2]))) ?_
  show SmE X a σ H _
  rcases bnd_some h with ⟨c, d, e1, e2⟩ | ⟨x, S1, e1, e2⟩
  · subst e2
    exact ha _ _ e1 σ H F A h0 hs _ hq
  · refine ha _ _ e1 σ H F A h0 hs _ fun v F1 A1 H1 q0 g q1 => ?_
    show SmE X b σ H1 _
    rcases bnd_some e2 with ⟨c, d, e3, e4⟩ | ⟨y, S2, e3, e4⟩
    · subst e4
      exact hb S1 _ _ e3 σ H1 F1 A1 q0 (hs.gr g) _ (ErrP.gr g hq)
    · refine hb S1 _ _ e3 σ H1 F1 A1 q0 (hs.gr g) _ fun w F2 A2 H2 q2 g2 q3 => ?_
      split at e4
      · rename_i w1 w2 hw1 hw2
        cases e4
        obtain ⟨p, rfl, ⟨vs, hp⟩, hh⟩ := lst_hg (K := X.K) q2 (q1.gr g2) hw1
        obtain ⟨q, rfl, ⟨us, hp2⟩, hh2⟩ := lst_hg (K := X.K) q2 q3 hw2
        exact ⟨p, q, vs, us, rfl, SqL.of hp, SqL.of hp2, hq _ F2 A2 H2 q2 (g.trans g2) (wk_itz hh hh2)⟩
      · cases e4
end
end Z


set_option Elab.async false
set_option linter.all false
set_option maxRecDepth 100000
set_option maxHeartbeats 4000000
namespace Z
open PySem PySem.Spec PyProof.Rows L2
open LamX (Tabs TabS ExtN CodeO)

/-! ## targets: names, rows of names -/
inductive Tg where
  | nm (i : Nat)
  | tp (l : List Nat)
def gNames : List Nat → TGs
  | [] => gNil
  | i :: r => gCons (gName i) (gNames r)
def gOf (K : PySem.W.Frag) : Tg → TG
  | .nm i => gName i
  | .tp l => fun v σ H Q => gTup K l.length (gNames l) v σ H Q ∨ gUnl K l.length (gNames l) v σ H Q
def Tg.slots : Tg → List Nat
  | .nm i => [i]
  | .tp l => l
def sets : List Nat → List D → Rho → Rho
  | i :: l, d :: ds, ρ => sets l ds (ρ.set i (some d))
  | _, _, ρ => ρ
def tgM : Tg → D → Store → Rho → Option Rho
  | .nm i, d, _, ρ => some (ρ.set i (some d))
  | .tp l, d, S, ρ => match itsD S d with
    | some ds => if ds.length = l.length then some (sets l ds ρ) else none
    | none => none
theorem sets_len : ∀ (l : List Nat) (ds : List D) (ρ : Rho), (sets l ds ρ).length = ρ.length
  | [], _, _ => rfl
  | _ :: _, [], _ => rfl
  | i :: l, d :: ds, ρ => by rw [sets, sets_len l ds, List.length_set]
theorem wipe_set {σ : L2.St} {o : Option V} {i : Nat} : ∀ {vs : List Nat}, i ∈ vs → wipe (σ.set i o) vs = wipe σ vs
  | v :: vs, h => by
    unfold wipe
    rcases List.mem_cons.mp h with rfl | h
    · by_cases hm : i ∈ vs
      · rw [wipe_set hm]
      · have : ∀ us : List Nat, i ∉ us → wipe (σ.set i o) us = (wipe σ us).set i o := by
          intro us
          induction us with
          | nil => intro _; rfl
          | cons u us ih =>
            intro hu
            simp only [List.mem_cons, not_or] at hu
            show (wipe (σ.set i o) us).set u none = ((wipe σ us).set u none).set i o
            rw [ih hu.2, List.set_comm _ _ hu.1]
        rw [this vs hm, List.set_set]
    · rw [wipe_set h]
section
variable {B : Bd} {F : Hp} {A : List Addr}
theorem gNames_ok {P : L2.St → Prop} : ∀ (l : List Nat) (ds : List D) (vs : List V) (σ : L2.St) (ρ : Rho) (H : Hp) (Q : L2.St → Hp → Prop), ds.length = l.length → IsDs B F A ds vs → Sl B F A σ ρ → P σ → (∀ σ i o, i ∈ l → P σ → P (σ.set i o)) →
    (∀ σ', Sl B F A σ' (sets l ds ρ) → P σ' → Q σ' H) → gNames l vs σ H Q
  | [], ds, vs, σ, ρ, H, Q, hl, hv, hs, hP, hset, hq => by
    have : ds = [] := List.eq_nil_of_length_eq_zero hl
    subst this
    rw [isDs_nil] at hv
    exact ⟨hv, hq σ hs hP⟩
  | i :: l, [], vs, σ, ρ, H, Q, hl, hv, hs, hP, hset, hq => by simp at hl
  | i :: l, d :: ds, vs, σ, ρ, H, Q, hl, hv, hs, hP, hset, hq => by
    obtain ⟨v, ws, rfl, h1, h2⟩ := isDs_cons.mp hv
    refine ⟨v, ws, rfl, ?_⟩
    show gNames l ws (σ.set i (some v)) H Q
    exact gNames_ok l ds ws _ _ H Q (by simpa using hl) h2 (hs.set i h1) (hset σ i _ List.mem_cons_self hP) (fun σ j o hj => hset σ j o (List.mem_cons_of_mem _ hj)) hq
end
theorem tg_ok {G : Wd} {F : Hp} {A : List Addr} {K : PySem.W.Frag} (hK : K = G.K) {t : Tg} {d : D} {S : Store} {ρ ρ' : Rho} (h : tgM t d S ρ = some ρ') {H : Hp} {σ : L2.St} {v : V} (h0 : S0 G F A H S) (hs : Sl G F A σ ρ) (hv : IsD G F A d v) {P : L2.St → Prop} (hP : P σ) (hset : ∀ σ i o, i ∈ t.slots → P σ → P (σ.set i o))
    {Q : L2.St → Hp → Prop} (hq : ∀ σ', Sl G F A σ' ρ' → P σ' → Q σ' H) : gOf K t v σ H Q := by
  cases t with
  | nm i =>
    cases h
    exact hq _ (hs.set i hv) (hset _ i _ (by simp [Tg.slots]) hP)
  | tp l =>
    simp only [tgM] at h
    split at h
    · rename_i ds hd
      split at h
      · rename_i hl
        cases h
        obtain ⟨p, vs, rfl, a1, a2⟩ := its_at h0 hv hd
        have fin := gNames_ok l ds vs σ ρ H Q hl a2 hs hP hset hq
        rcases a1 with a1 | a1
        · exact .inr ⟨p, vs, rfl, by rw [hK]; exact a1, by rw [a2.len, hl], fin⟩
        · exact .inl ⟨p, vs, rfl, by rw [hK]; exact a1, by rw [a2.len, hl], fin⟩
      · cases h
    · cases h
/-- a name that may be stored -/
def stB (N : List Str) (fn : Str → Bool) (sc : Scope) (i : Nat) (x : Str) : Bool :=
  decide (N[i]? = some x) && ((decide (sc.names.lookup x = some .cell) && fn x) || decide (sc.names.lookup x = some .local))
def stNB (N : List Str) (fn : Str → Bool) (sc : Scope) : List Nat → List Expr → Bool
  | [], [] => true
  | i :: l, .Name x _ :: es => stB N fn sc i x && stNB N fn sc l es
  | _, _ => false
def mtT (N : List Str) (fn : Str → Bool) (sc : Scope) : Tg → Expr → Bool
  | .nm i, .Name x _ => stB N fn sc i x
  | .tp l, .Tuple es _ _ => stNB N fn sc l es
  | _, _ => false
section
variable {X : Cx} {fn : Str → Bool} {sc : Scope} {N : List Str}
theorem pg_st {i : Nat} {x : Str} {p : Pos} (hX : X.N = N) (hf : X.fn = fn) (hsc : X.env.scope = sc) (hN : N.Nodup) (h : stB N fn sc i x = true) : PG X (.Name x p) (gName i) := by
  simp only [stB, Bool.and_eq_true, Bool.or_eq_true, decide_eq_true_eq] at h
  subst hX hf hsc
  rcases h.2 with ⟨h1, h2⟩ | h1
  · exact pg_name hN h.1 (.inr h1) (.inl h2)
  · exact pg_name hN h.1 (.inl h1) (.inr h1)
theorem pgs_st (hX : X.N = N) (hf : X.fn = fn) (hsc : X.env.scope = sc) (hN : N.Nodup) : ∀ (l : List Nat) (es : List Expr), stNB N fn sc l es = true → PGs X es (gNames l) ∧ (assignEach es X.env).length = l.length ∧ (assignEach es X.env).findIdx? (·.1) = none
  | [], [], _ => ⟨pgs_nil, rfl, rfl⟩
  | i :: l, .Name x p :: es, h => by
    simp only [stNB, Bool.and_eq_true] at h
    obtain ⟨h1, h2, h3⟩ := pgs_st hX hf hsc hN l es h.2
    refine ⟨pgs_cons (pg_st hX hf hsc hN h.1) h1 rfl, ?_, ?_⟩
    · show ((false, assign (.Name x p) X.env) :: assignEach es X.env).length = _
      rw [List.length_cons, List.length_cons, h2]
    · show List.findIdx? (·.1) ((false, assign (.Name x p) X.env) :: assignEach es X.env) = none
      rw [List.findIdx?_cons, h3]
      rfl
  | [], _ :: _, h => by simp [stNB] at h
  | _ :: _, [], h => by simp [stNB] at h
  | i :: l, e :: es, h => by
    cases e with
    | Name x p =>
      simp only [stNB, Bool.and_eq_true] at h
      obtain ⟨h1, h2, h3⟩ := pgs_st hX hf hsc hN l es h.2
      refine ⟨pgs_cons (pg_st hX hf hsc hN h.1) h1 rfl, ?_, ?_⟩
      · show ((false, assign (.Name x p) X.env) :: assignEach es X.env).length = _
        rw [List.length_cons, List.length_cons, h2]
      · show List.findIdx? (·.1) ((false, assign (.Name x p) X.env) :: assignEach es X.env) = none
        rw [List.findIdx?_cons, h3]
        rfl
    | _ => simp [stNB] at h
theorem PG.or {X : Cx} {e : Expr} {t u : TG} (h : PG X e t) (k : PG X e u) : PG X e (fun v σ H Q => t v σ H Q ∨ u v σ H Q) :=
  ⟨fun pins s σ H v w Q I r q => q.elim (fun q => h.run pins s σ H v w Q I r q) fun q => k.run pins s σ H v w Q I r q⟩
theorem pg_of {K : PySem.W.Frag} {t : Tg} {e : Expr} (hK : X.K = K) (hc : X.calm = true) (hX : X.N = N) (hf : X.fn = fn) (hsc : X.env.scope = sc) (hN : N.Nodup) (h : mtT N fn sc t e = true) : PG X e (gOf K t) := by
  subst hK
  cases t with
  | nm i =>
    cases e with
    | Name x p => exact pg_st hX hf hsc hN h
    | _ => cases h
  | tp l =>
    cases e with
    | Tuple es k p =>
      obtain ⟨h1, h2, h3⟩ := pgs_st hX hf hsc hN l es h
      exact PG.or (pg_tup hc h1 h2 h3) (pg_unl hc h1 h2 h3)
    | _ => cases h
end

/-! ## list comprehensions -/
def wipeR : Rho → List Nat → Rho
  | ρ, [] => ρ
  | ρ, v :: vs => (wipeR ρ vs).set v none
theorem wipe_sl {B : Bd} {F : Hp} {A : List Addr} {σ : L2.St} {ρ : Rho} (h : Sl B F A σ ρ) : ∀ vs : List Nat, Sl B F A (wipe σ vs) (wipeR ρ vs)
  | [] => h
  | v :: vs => (wipe_sl h vs).forget v
/-- the items of the new list -/
def lcF (stay : Store → Bool) (tg : D → Store → Rho → Option Rho) (cond : Rho → Store → M Bool) (elt : Rho → Store → M D) (ρ : Rho) : List D → Store → Option (List D × Store)
  | [], S => if stay S then some ([], S) else none
  | d :: r, S => if stay S then (match tg d S ρ with
    | some ρ' => (match cond ρ' S with
      | some (.ok true, S1) => (match elt ρ' S1 with
        | some (.ok v, S2) => (lcF stay tg cond elt ρ r S2).map fun q => (v :: q.1, q.2)
        | _ => none)
      | some (.ok false, S1) => lcF stay tg cond elt ρ r S1
      | _ => none)
    | none => none) else none
def lcM (m : Bool) (tg : D → Store → Rho → Option Rho) (cond : Rho → Store → M Bool) (elt : Rho → Store → M D) (ρ : Rho) (w : Wk) (S : Store) : M D :=
  if fits w.items.length then (match lcF w.stay tg cond elt ρ w.items S with
    | some (ds, S2) => lft (mk m ds S2)
    | none => none) else none
section
variable {G : Wd} {F : Hp} {A : List Addr} {H : Hp} {S : Store} {p : Addr}
/-- the pinned list is written -/
theorem S0.pnset {o o' : HO} (h : S0 (G.pn p o) F A H S) (nt : ∀ ps, o ≠ .tbl ps) (nc : ∀ c q, o ≠ CodeO c q) (nt' : ∀ ps, o' ≠ .tbl ps) : S0 (G.pn p o') F A (upd H p o') S := by
  obtain ⟨hp, hF, hA⟩ := h.pin p o (show upd G.pin p o p = some o from upd_same)
  refine ⟨fun a v e => ?_, h.out, h.nd, h.len, fun k q v e1 e2 => ?_, h.ntb, fun q hq => ?_, fun a v e => ?_, fun a ps e => ?_⟩
  · rw [upd_ne (ne_of_none e hF)]; exact h.sub a v e
  · obtain ⟨w, h1, h2⟩ := h.obj k q v e1 e2
    have : q ≠ p := fun z => hA (z ▸ List.mem_of_getElem? e1)
    exact ⟨w, by rw [upd_ne this]; exact h1, h2⟩
  · obtain ⟨ps, h1, h2, h3⟩ := h.tab q hq
    have ne1 : q.1 ≠ p := fun z => by rw [z, hp] at h1; exact nt ps (Option.some.inj h1)
    refine ⟨ps, by rw [upd_ne ne1]; exact h1, h2, fun pos cv hc => ?_⟩
    obtain ⟨c, e1, e2⟩ := h3 pos cv hc
    refine ⟨c, e1, ?_⟩
    have ne2 : c ≠ p := fun z => by
      rw [z, hp] at e2
      exact nc p q.2 (Option.some.inj e2)
    rw [upd_ne ne2]
    exact e2
  · by_cases ha : a = p
    · subst ha
      have e' : upd G.pin a o' a = some v := e
      rw [upd_same] at e' ⊢
      exact ⟨e', hF, hA⟩
    · have e' : upd G.pin p o' a = some v := e
      rw [upd_ne ha] at e' ⊢
      exact h.pin a v (show upd G.pin p o a = some v by rw [upd_ne ha]; exact e')
  · by_cases ha : a = p
    · subst ha
      have e' : upd G.pin a o' a = some (.tbl ps) := e
      rw [upd_same] at e'
      exact nt' ps (Option.some.inj e')
    · have e' : upd G.pin p o' a = some (.tbl ps) := e
      rw [upd_ne ha] at e'
      exact h.npt a ps (show upd G.pin p o a = some (.tbl ps) by rw [upd_ne ha]; exact e')
theorem lst_code {xs : List V} (c : Addr) (q : Str) : HO.lst xs ≠ CodeO c q := fun z => by
  unfold CodeO at z
  cases z
theorem lst_tbl {xs : List V} (ps : Array Value) : HO.lst xs ≠ .tbl ps := fun z => by cases z
/-- the pinned list is let go: frozen, or of the store -/
theorem npt_un {o : HO} (h : S0 (G.pn p o) F A H S) (n : G.pin p = none) (a : Addr) (ps : Array Value) : G.pin a ≠ some (.tbl ps) := fun e => by
  have ha : a ≠ p := fun z => by rw [z, n] at e; cases e
  exact h.npt a ps (show upd G.pin p o a = some (.tbl ps) by rw [upd_ne ha]; exact e)
theorem S0.unpin {o : HO} (h : S0 (G.pn p o) F A H S) (n : G.pin p = none) (nt : ∀ ps, o ≠ .tbl ps) : S0 G (upd F p o) A H S ∧ Gr F A (upd F p o) A := by
  obtain ⟨hp, hF, hA⟩ := h.pin p o (show upd G.pin p o p = some o from upd_same)
  have g : Gr F A (upd F p o) A := ⟨fun a u e => by rw [upd_ne (ne_of_none e hF)]; exact e, [], by simp⟩
  refine ⟨⟨fun a u e => ?_, fun a ha => ?_, h.nd, h.len, fun k q v e1 e2 => ?_, fun a ps e => ?_, h.tab, fun a v e => ?_, npt_un h n⟩, g⟩
  · by_cases ha : a = p
    · subst ha; rw [upd_same] at e; cases e; exact hp
    · rw [upd_ne ha] at e; exact h.sub a u e
  · rw [upd_ne (fun z => hA (by rw [← z]; exact ha))]; exact h.out a ha
  · obtain ⟨w, h1, h2⟩ := h.obj k q v e1 e2
    exact ⟨w, h1, h2.gr g⟩
  · by_cases ha : a = p
    · subst ha; rw [upd_same] at e; exact nt ps (Option.some.inj e)
    · rw [upd_ne ha] at e; exact h.ntb a ps e
  · have ha : a ≠ p := fun z => by rw [z, n] at e; cases e
    have q := h.pin a v (show upd G.pin p o a = some v by rw [upd_ne ha]; exact e)
    rw [upd_ne ha]
    exact q
theorem S0.unpinS {xs : List V} {ds : List D} (h : S0 (G.pn p (.lst xs)) F A H S) (n : G.pin p = none) (hv : IsDs G F A ds xs) : S0 G F (A ++ [p]) H (S ++ [.lst ds]) ∧ Gr F A F (A ++ [p]) := by
  obtain ⟨hp, hF, hA⟩ := h.pin p (.lst xs) (show upd G.pin p (.lst xs) p = some (.lst xs) from upd_same)
  have g : Gr F A F (A ++ [p]) := ⟨fun _ _ e => e, [p], rfl⟩
  refine ⟨⟨h.sub, fun a ha => ?_, ?_, by simp [h.len], fun k q v e1 e2 => ?_, h.ntb, h.tab, fun a v e => ?_, npt_un h n⟩, g⟩
  · rcases List.mem_append.mp ha with ha | ha
    · exact h.out a ha
    · rw [List.mem_singleton.mp ha]; exact hF
  · rw [List.nodup_append]
    exact ⟨h.nd, by simp, fun a ha b hb => by rw [List.mem_singleton.mp hb]; exact fun z => hA (z ▸ ha)⟩
  · by_cases hk : k < A.length
    · rw [List.getElem?_append_left hk] at e1
      rw [List.getElem?_append_left (by rw [← h.len]; exact hk)] at e2
      obtain ⟨w, h1, h2⟩ := h.obj k q v e1 e2
      exact ⟨w, h1, h2.gr g⟩
    · have hk2 : A.length ≤ k := Nat.le_of_not_lt hk
      rw [List.getElem?_append_right hk2] at e1
      rw [List.getElem?_append_right (by rw [← h.len]; exact hk2), ← h.len] at e2
      have e0 : k - A.length = 0 := by
        have := (List.getElem?_eq_some_iff.mp e1).1
        simp at this
        exact this
      rw [e0] at e1 e2
      simp at e1 e2
      subst e1 e2
      exact ⟨_, hp, xs, rfl, hv.gr g⟩
  · have ha : a ≠ p := fun z => by rw [z, n] at e; cases e
    have q := h.pin a v (show upd G.pin p (.lst xs) a = some v by rw [upd_ne ha]; exact e)
    refine ⟨q.1, q.2.1, fun z => ?_⟩
    rcases List.mem_append.mp z with z | z
    · exact q.2.2 z
    · exact ha (List.mem_singleton.mp z)
end
def SmTs (X : Cx) (ifs : List Expr) : TT := fun σ H Q => ∀ pins s, Inv X pins σ H s →
  wpAny (model X.prog X.w) X.A (forIn ifs true fun c r => if r = true then do let ok ← isTrue c X.env (eval c X.env); pure (ForInStep.yield ok) else pure (ForInStep.yield r)) (TP X pins σ Q) X.xe s
/-- a clause's tests -/
def EvTs (G : Wd) (X : Cx) (W : WX) (ifs : List Expr) (ρ : Rho) (S : Store) (m : M Bool) : Prop :=
  ∀ r S', m = some (r, S') → ∀ σ H F A, S0 G F A H S → Sl G F A σ ρ → ∀ Q, PostT G W F A σ S' Q r → SmTs X ifs σ H Q
theorem ets_nil {G : Wd} {X : Cx} {W : WX} {ρ : Rho} {S : Store} : EvTs G X W [] ρ S (pur true S) := by
  intro r S' h σ H F A h0 hs Q hq pins s I
  cases h
  exact pts_nil.run pins s σ H Q I (hq F A H h0 .refl)
theorem ets_one {G : Wd} {X : Cx} {W : WX} {ρ : Rho} {S : Store} {c : Expr} {m : M Bool} (h : EvT G X W c ρ S m) : EvTs G X W [c] ρ S m := by
  intro r S' hr σ H F A h0 hs Q hq pins s I
  exact (pts_one smT).run pins s σ H Q I (h r S' hr σ H F A h0 hs Q hq)
/-- nothing is let out -/
def W0 : WX := fun _ _ _ _ => False
section
variable {X : Cx} {scope : Scope} {tg elt iter : Expr} {ifs : List Expr}
/-- the block's contexts -/
abbrev Blks (X : Cx) (scope : Scope) (P : Cx → Prop) : Prop := ∀ (s : Shared) (H : Hp) (C : Addr) (cl : List (Str × Addr)) (fp : List Addr), P (X.blk s H scope (compEnvC scope cl C X.env) fp)
def BkE (X : Cx) (scope : Scope) (e : Expr) : TE := fun σ H Q => Blks X scope fun Y => SmE Y e σ H Q
def BkT (X : Cx) (scope : Scope) (ifs : List Expr) : TT := fun σ H Q => Blks X scope fun Y => SmTs Y ifs σ H Q
theorem bkE (s : Shared) (H : Hp) (C : Addr) (cl : List (Str × Addr)) (fp : List Addr) : PE (X.blk s H scope (compEnvC scope cl C X.env) fp) elt (BkE X scope elt) := ⟨fun pins s' σ H' Q I h => h s H C cl fp pins s' I⟩
theorem bkT (s : Shared) (H : Hp) (C : Addr) (cl : List (Str × Addr)) (fp : List Addr) : PTs (X.blk s H scope (compEnvC scope cl C X.env) fp) ifs (BkT X scope ifs) := ⟨fun pins s' σ H' Q I h => h s H C cl fp pins s' I⟩
end
section
variable {G : Wd} {X : Cx} {W : WX} {ρ : Rho} {S : Store} {tg elt iter : Expr} {ifs : List Expr} {scope : Scope} {t : Tg} {own : List (Str × Nat)} {mi : M Wk} {mc : Rho → Store → M Bool} {me : Rho → Store → M D} {m : Bool}
theorem wipe_none {σ : L2.St} {v : Nat} : ∀ {us : List Nat}, v ∈ us → (wipe σ us).set v none = wipe σ us
  | u :: us, h => by
    show ((wipe σ us).set u none).set v none = (wipe σ us).set u none
    by_cases huv : u = v
    · subst huv; rw [List.set_set]
    · rcases List.mem_cons.mp h with h | h
      · exact absurd h.symm huv
      · rw [List.set_comm _ _ huv, wipe_none h]
theorem wipe_sub {σ : L2.St} {vs : List Nat} : ∀ us : List Nat, (∀ u ∈ us, u ∈ vs) → wipe (wipe σ vs) us = wipe σ vs
  | [], _ => rfl
  | u :: us, h => by
    show (wipe (wipe σ vs) us).set u none = _
    rw [wipe_sub us fun x hx => h x (List.mem_cons_of_mem _ hx)]
    exact wipe_none (h u List.mem_cons_self)
theorem wipe_wipe {σ : L2.St} (vs : List Nat) : wipe (wipe σ vs) vs = wipe σ vs := wipe_sub vs fun _ h => h
/-- the state of a comprehension ahead of turn i -/
def LcInv (G : Wd) (L : Addr) (F1 : Hp) (A1 : List Addr) (stay : Store → Bool) (tg : D → Store → Rho → Option Rho) (mc : Rho → Store → M Bool) (me : Rho → Store → M D) (ρ : Rho) (items ds : List D) (S2 : Store) (i : Nat) (H : Hp) : Prop :=
  ∃ (acc : List D) (vs : List V) (F' : Hp) (A' : List Addr) (Si : Store) (rest : List D), S0 (G.pn L (.lst vs)) F' A' H Si ∧ Gr F1 A1 F' A' ∧ IsDs G F' A' acc vs ∧ acc.length ≤ i ∧ lcF stay tg mc me ρ (items.drop i) Si = some (rest, S2) ∧ ds = acc ++ rest
theorem lc_sem (hK : X.K = G.K) (hi : EvI G X W tg iter ρ S mi) (hsl : ∀ i ∈ t.slots, i ∈ own.map (·.2))
    (hct : ∀ G' : Wd, G'.toBd = G.toBd → Blks X scope fun Y => ∀ ρ S, EvTs G' Y W0 ifs ρ S (mc ρ S)) (hel : ∀ G' : Wd, G'.toBd = G.toBd → Blks X scope fun Y => ∀ ρ S, EvE G' Y W0 elt ρ S (me ρ S))
    {r : R D} {S' : Store} (h : bnd mi (lcM m (tgM t) mc me (wipeR ρ (own.map (·.2)))) = some (r, S')) {σ : L2.St} {H F : Hp} {A : List Addr} (h0 : S0 G F A H S) (hs : Sl G F A σ ρ) {Q : VK} (hq : PostE G W F A σ S' Q r) :
    tLc (SmI X tg iter) (gOf G.K t) (BkT X scope ifs) (BkE X scope elt) (own.map (·.2)) σ H Q := by
  show SmI X tg iter σ H _
  rcases bnd_some h with ⟨c, d, e1, e2⟩ | ⟨w, S1, e1, e2⟩
  · subst e2
    exact hi _ _ e1 σ H F A h0 hs _ hq
  · refine hi _ _ e1 σ H F A h0 hs _ fun J F1 A1 H1 q0 g wk L hD => ?_
    unfold lcM at e2
    split at e2
    · rename_i hfit
      split at e2
      · rename_i ds S2 hlc
        cases hmk : mk m ds S2 with
        | none => rw [hmk] at e2; cases e2
        | some pr =>
          obtain ⟨d, S3⟩ := pr
          rw [hmk] at e2
          cases e2
          have hpin : G.pin L = none := by
            cases z : G.pin L with
            | none => rfl
            | some u => have := (q0.pin L u z).1; rw [hD] at this; cases this
          have fitL := fits_of hfit
          refine ⟨fun i n H => n = w.items.length - i ∧ i ≤ w.items.length ∧ LcInv G L F1 A1 w.stay (tgM t) mc me (wipeR ρ (own.map (·.2))) w.items ds S2 i H,
            ⟨w.items.length, rfl, Nat.zero_le _, [], [], F1, A1, S1, ds, q0.pn hD lst_tbl, .refl, isDs_nil.mpr rfl, Nat.le_refl _, hlc, rfl⟩, ?_⟩
          rintro i n H ⟨rfl, hi', acc, vs, F', A', Si, rest, k0, kg, ka, kl, kf, ke⟩
          by_cases hlt : i < w.items.length
          · have hdrop : w.items.drop i = w.items[i] :: w.items.drop (i + 1) := List.drop_eq_getElem_cons hlt
            rw [hdrop] at kf
            simp only [lcF] at kf
            split at kf
            · rename_i hst
              obtain ⟨wk1, wk2⟩ := wk (G.pn L (.lst vs)).pin F' A' H Si k0 kg hst
              obtain ⟨hgo, hyl⟩ := wk1 i w.items[i] (by simp [hlt])
              refine .inr ⟨hgo, LcInv G L F1 A1 w.stay (tgM t) mc me (wipeR ρ (own.map (·.2))) w.items ds S2 (i + 1), fun H' nx => ⟨w.items.length - (i + 1), by omega, rfl, hlt, nx⟩, fun x H' y => ?_⟩
              obtain ⟨F2, y1, y2, y3⟩ := hyl x H' y
              have y1 : S0 (G.pn L (.lst vs)) F2 A' H' Si := y1
              split at kf
              · rename_i ρ' htg
                refine tg_ok (G := G.pn L (.lst vs)) (P := fun σ' => wipe σ' (own.map (·.2)) = wipe σ (own.map (·.2))) rfl htg y1 ((wipe_sl hs _).gr ((g.trans kg).trans y2)) y3 (wipe_wipe _) (fun σ' j o hj hP => by rw [wipe_set (hsl j hj)]; exact hP) fun σ2 hσ2 hP => ⟨hP, fun s4 H4 C cl fp => ?_⟩
                have hc1 := hct (G.pn L (.lst vs)) rfl s4 H4 C cl fp ρ'
                split at kf
                · rename_i Sc hc
                  refine hc1 _ _ _ hc σ2 H' F2 A' y1 hσ2 _ fun F3 A3 H3 c0 cg => ?_
                  simp only [if_true]
                  intro s5 H5 C2 cl2 fp2
                  have he2 := hel (G.pn L (.lst vs)) rfl s5 H5 C2 cl2 fp2 ρ' Sc
                  split at kf
                  · rename_i d Se hE
                    rw [Option.map_eq_some_iff] at kf
                    obtain ⟨⟨rest', S2'⟩, kf1, kf2⟩ := kf
                    simp only [Prod.mk.injEq] at kf2
                    obtain ⟨kf3, kf4⟩ := kf2
                    subst kf3 kf4
                    refine he2 _ _ hE σ2 H3 F3 A3 c0 (hσ2.gr cg) _ fun u F4 A4 H4' d0 dg du => ?_
                    obtain ⟨hp, _, _⟩ := d0.pin L (.lst vs) upd_same
                    refine ⟨vs, hp, ?_, acc ++ [d], vs ++ [u], F4, A4, Se, rest', d0.pnset lst_tbl lst_code lst_tbl, ((kg.trans y2).trans cg).trans dg, ?_, ?_, kf1, by rw [ke]; simp⟩
                    · rw [ka.len]; omega
                    · exact (ka.gr ((y2.trans cg).trans dg)).append (isDs_cons.mpr ⟨u, [], rfl, du, isDs_nil.mpr rfl⟩)
                    · rw [List.length_append, List.length_singleton]; omega
                  · cases kf
                · rename_i Sc hc
                  refine hc1 _ _ _ hc σ2 H' F2 A' y1 hσ2 _ fun F3 A3 H3 c0 cg => ?_
                  rw [if_neg Bool.false_ne_true]
                  exact ⟨acc, vs, F3, A3, Sc, rest, c0, (kg.trans y2).trans cg, ka.gr (y2.trans cg), Nat.le_succ_of_le kl, kf, ke⟩
                · cases kf
              · cases kf
            · cases kf
          · have e0 : i = w.items.length := by omega
            subst e0
            rw [List.drop_length] at kf
            simp only [lcF] at kf
            split at kf
            · rename_i hst
              cases kf
              rw [List.append_nil] at ke
              subst ke
              obtain ⟨wk1, wk2⟩ := wk (G.pn L (.lst vs)).pin F' A' H _ k0 kg hst
              refine .inl ⟨wk2, ?_⟩
              unfold mk at hmk
              split at hmk
              · split at hmk
                · cases hmk
                  obtain ⟨u0, ug⟩ := k0.unpinS hpin ka
                  refine hq _ _ _ _ u0 ((g.trans kg).trans ug) ?_
                  simp only [IsD]
                  exact ⟨L, by rw [← k0.len]; simp, rfl⟩
                · cases hmk
                  obtain ⟨u0, ug⟩ := k0.unpin hpin lst_tbl
                  exact hq _ _ _ _ u0 ((g.trans kg).trans ug) (isD_lst.mpr ⟨L, vs, rfl, upd_same, ka.gr ug⟩)
              · cases hmk
            · cases kf
      · cases e2
    · cases e2
end
section
variable {G : Wd} {X : Cx} {W : WX} {ρ : Rho} {S : Store} {tg elt iter : Expr} {ifs : List Expr} {scope : Scope} {t : Tg} {own : List (Str × Nat)} {mi : M Wk} {mc : Rho → Store → M Bool} {me : Rho → Store → M D} {m : Bool} {pos : Pos}
theorem ev_lc (hK : X.K = G.K) (hc : X.calm = true) (hN : X.N.Nodup) (ok : BlkOk X.N X.env.scope scope own) (hi : EvI G X W tg iter ρ S mi) (hsl : ∀ i ∈ t.slots, i ∈ own.map (·.2))
    (hg : Blks X scope fun Y => PG Y tg (gOf G.K t))
    (hct : ∀ G' : Wd, G'.toBd = G.toBd → Blks X scope fun Y => ∀ ρ S, EvTs G' Y W0 ifs ρ S (mc ρ S)) (hel : ∀ G' : Wd, G'.toBd = G.toBd → Blks X scope fun Y => ∀ ρ S, EvE G' Y W0 elt ρ S (me ρ S)) (hst : ∀ x, foldedSetIterable iter X.env x = pure x) :
    EvE G X W (.ListComp elt [⟨tg, iter, ifs, 0⟩] scope pos) ρ S (bnd mi (lcM m (tgM t) mc me (wipeR ρ (own.map (·.2))))) := by
  intro r S' h σ H F A h0 hs Q hq
  exact SmE.of (pe_lc hc hN smI ok hg bkT bkE hst) (lc_sem hK hi hsl hct hel h h0 hs hq)
end
end Z


set_option Elab.async false
set_option linter.all false
set_option maxRecDepth 100000
set_option maxHeartbeats 4000000
namespace Z
open PySem PySem.Spec PyProof.Rows L2
open LamX (Tabs TabS ExtN CodeO)

/-! ## statements -/
inductive Out where
  | nx (ρ : Rho) | rt (d : D) | bk (ρ : Rho) | ct (ρ : Rho)
abbrev MS := M Out
def PostS (G : Wd) (W : WX) (F : Hp) (A : List Addr) (σ : L2.St) (S' : Store) (E : Ends) : R Out → Prop
  | .ok (.nx ρ') => ∀ σ' F' A' H', σ'.length = σ.length → S0 G F' A' H' S' → Gr F A F' A' → Sl G F' A' σ' ρ' → E.nx σ' H'
  | .ok (.rt d) => ∀ v F' A' H', S0 G F' A' H' S' → Gr F A F' A' → IsD G F' A' d v → E.rt v H'
  | .ok (.bk ρ') => ∀ σ' F' A' H', σ'.length = σ.length → S0 G F' A' H' S' → Gr F A F' A' → Sl G F' A' σ' ρ' → E.bk σ' H'
  | .ok (.ct ρ') => ∀ σ' F' A' H', σ'.length = σ.length → S0 G F' A' H' S' → Gr F A F' A' → Sl G F' A' σ' ρ' → E.ct σ' H'
  | .err c d => ErrP G W F A σ S' c d
def EvS (G : Wd) (X : Cx) (W : WX) (st : Stmt) (ρ : Rho) (S : Store) (m : MS) : Prop :=
  ∀ r S', m = some (r, S') → ∀ σ H F A, S0 G F A H S → Sl G F A σ ρ → ∀ E, PostS G W F A σ S' E r → SmS X st E σ H
def EvB (G : Wd) (X : Cx) (W : WX) (sts : List Stmt) (ρ : Rho) (S : Store) (m : MS) : Prop :=
  ∀ r S', m = some (r, S') → ∀ σ H F A, S0 G F A H S → Sl G F A σ ρ → ∀ E, PostS G W F A σ S' E r → SmB X sts E σ H
theorem ErrP.len {G : Wd} {W : WX} {F : Hp} {A : List Addr} {σ σ1 : L2.St} {S' : Store} {c : Str} {d : D} (hl : σ1.length = σ.length) (h : ErrP G W F A σ S' c d) : ErrP G W F A σ1 S' c d :=
  fun C dd v F' A' H' σ' h1 => h C dd v F' A' H' σ' (h1.trans hl)
theorem PostS.gr {G : Wd} {W : WX} {F F1 : Hp} {A A1 : List Addr} {σ σ1 : L2.St} {S' : Store} {E : Ends} {r : R Out} (hl : σ1.length = σ.length) (g : Gr F A F1 A1) (h : PostS G W F A σ S' E r) : PostS G W F1 A1 σ1 S' E r := by
  cases r with
  | ok o =>
    cases o with
    | nx ρ' => exact fun σ' F' A' H' h1 h0 g' => h σ' F' A' H' (h1.trans hl) h0 (g.trans g')
    | rt d => exact fun v F' A' H' h0 g' => h v F' A' H' h0 (g.trans g')
    | bk ρ' => exact fun σ' F' A' H' h1 h0 g' => h σ' F' A' H' (h1.trans hl) h0 (g.trans g')
    | ct ρ' => exact fun σ' F' A' H' h1 h0 g' => h σ' F' A' H' (h1.trans hl) h0 (g.trans g')
  | err c d => exact (ErrP.gr g h).len hl
section
variable {G : Wd} {X : Cx} {W : WX} {ρ : Rho} {S : Store} {a b c e o : Expr} {es : List Expr} {pos p apos : Pos} {x : Str} {st : Stmt} {rest : List Stmt}
theorem EvE.bindS {m : M D} {k : D → Store → MS} (ha : EvE G X W a ρ S m) {r : R Out} {S' : Store} (h : bnd m k = some (r, S')) {σ : L2.St} {H : Hp} {F : Hp} {A : List Addr} (h0 : S0 G F A H S) (hs : Sl G F A σ ρ) {E : Ends} (he : PostS G W F A σ S' E r) {Q2 : VK}
    (hk : ∀ x S1, k x S1 = some (r, S') → ∀ v F1 A1 H1, S0 G F1 A1 H1 S1 → Sl G F1 A1 σ ρ → PostS G W F1 A1 σ S' E r → IsD G F1 A1 x v → Q2 v H1) : SmE X a σ H Q2 := by
  rcases bnd_some h with ⟨c, d, e1, e2⟩ | ⟨x, S1, e1, e2⟩
  · subst e2
    exact ha _ _ e1 σ H F A h0 hs Q2 he
  · exact ha _ _ e1 σ H F A h0 hs Q2 fun v F1 A1 H1 q0 g q1 => hk x S1 e2 v F1 A1 H1 q0 (hs.gr g) (he.gr rfl g) q1
theorem es_pass : EvS G X W (.Pass pos) ρ S (pur (.nx ρ) S) := by
  intro r S' h σ H F A h0 hs E he
  cases h
  exact SmS.of ps_pass (he σ F A H rfl h0 .refl hs)
theorem es_break : EvS G X W (.Break pos) ρ S (pur (.bk ρ) S) := by
  intro r S' h σ H F A h0 hs E he
  cases h
  exact SmS.of ps_break (he σ F A H rfl h0 .refl hs)
theorem es_cont : EvS G X W (.Continue pos) ρ S (pur (.ct ρ) S) := by
  intro r S' h σ H F A h0 hs E he
  cases h
  exact SmS.of ps_continue (he σ F A H rfl h0 .refl hs)
/-- no comprehension -/
def unComp : Expr → Bool
  | .ListComp .. => false
  | .SetComp .. => false
  | .DictComp .. => false
  | _ => true
theorem swap_no {t : Option Expr} {l : Nat} {env : Env} (h : unComp e = true) : swapsWith e t l env = pure false := by
  cases e <;> first | rfl | cases h
theorem es_expr {m : M D} (he : EvE G X W e ρ S m) (hu : unComp e = true) : EvS G X W (.Expr e pos) ρ S (bnd m fun _ S1 => pur (.nx ρ) S1) := by
  intro r S' h σ H F A h0 hs E hE
  refine SmS.of (ps_expr smE (swap_no hu)) ?_
  show SmE X e σ H _
  refine he.bindS h h0 hs hE fun x S1 e2 v F1 A1 H1 q0 s1 hE' q1 => ?_
  cases e2
  exact hE' σ F1 A1 H1 rfl q0 .refl s1
theorem es_ret {m : M D} (he : EvE G X W e ρ S m) : EvS G X W (.Return (some e) pos) ρ S (bnd m fun d S1 => pur (.rt d) S1) := by
  intro r S' h σ H F A h0 hs E hE
  refine SmS.of (ps_ret smE) ?_
  show SmE X e σ H _
  refine he.bindS h h0 hs hE fun x S1 e2 v F1 A1 H1 q0 s1 hE' q1 => ?_
  cases e2
  exact hE' v F1 A1 H1 q0 .refl q1
theorem es_retN : EvS G X W (.Return none pos) ρ S (pur (.rt .non) S) := by
  intro r S' h σ H F A h0 hs E hE
  cases h
  exact SmS.of ps_retN (hE .non F A H h0 .refl (isD_non.mpr rfl))
theorem es_if {mt : M Bool} {ma mb : Store → MS} {q1 q2 : List Stmt} (ht : EvT G X W c ρ S mt) (ha : ∀ S1, EvB G X W q1 ρ S1 (ma S1)) (hb : ∀ S1, EvB G X W q2 ρ S1 (mb S1)) :
    EvS G X W (.If c q1 q2 pos) ρ S (bnd mt fun x S1 => if x = true then ma S1 else mb S1) := by
  intro r S' hr σ H F A h0 hs E hE
  refine SmS.of (ps_if smT smB smB) ?_
  show SmT X c σ H _
  rcases bnd_some hr with ⟨c, d, e1, e2⟩ | ⟨x, S1, e1, e2⟩
  · subst e2
    exact ht _ _ e1 σ H F A h0 hs _ hE
  · refine ht _ _ e1 σ H F A h0 hs _ fun F1 A1 H1 q0 g => ?_
    cases x with
    | true =>
      rw [if_pos rfl] at e2
      rw [if_pos rfl]
      exact ha S1 r S' e2 σ H1 F1 A1 q0 (hs.gr g) E (hE.gr rfl g)
    | false =>
      rw [if_neg Bool.false_ne_true] at e2
      rw [if_neg Bool.false_ne_true]
      exact hb S1 r S' e2 σ H1 F1 A1 q0 (hs.gr g) E (hE.gr rfl g)
/-- one statement behind the other -/
def seqS (m : MS) (k : Rho → Store → MS) : MS := bnd m fun o S1 => match o with
  | .nx ρ => k ρ S1
  | o => pur o S1
theorem eb_nil : EvB G X W [] ρ S (pur (.nx ρ) S) := by
  intro r S' h σ H F A h0 hs E he
  cases h
  exact SmB.of pss_nil (he σ F A H rfl h0 .refl hs)
theorem eb_cons {m : MS} {k : Rho → Store → MS} (h1 : EvS G X W st ρ S m) (h2 : ∀ ρ1 S1, EvB G X W rest ρ1 S1 (k ρ1 S1)) : EvB G X W (st :: rest) ρ S (seqS m k) := by
  intro r S' h σ H F A h0 hs E hE
  refine SmB.of (pss_cons smS smB) ?_
  show SmS X st _ σ H
  rcases bnd_some h with ⟨c, d, e1, e2⟩ | ⟨o, S1, e1, e2⟩
  · subst e2
    exact h1 _ _ e1 σ H F A h0 hs _ hE
  · cases o with
    | nx ρ1 =>
      refine h1 _ _ e1 σ H F A h0 hs _ fun σ1 F1 A1 H1 l1 q0 g s1 => ?_
      exact h2 ρ1 S1 r S' e2 σ1 H1 F1 A1 q0 s1 E (hE.gr l1 g)
    | rt d => cases e2; exact h1 _ _ e1 σ H F A h0 hs _ hE
    | bk d => cases e2; exact h1 _ _ e1 σ H F A h0 hs _ hE
    | ct d => cases e2; exact h1 _ _ e1 σ H F A h0 hs _ hE
theorem eb_one {m : MS} (h1 : EvS G X W st ρ S m) : EvB G X W [st] ρ S m := by
  intro r S' h σ H F A h0 hs E hE
  exact SmB.of (pss_one smS) (h1 r S' h σ H F A h0 hs E hE)

/-! ### assignments -/
def setT (t : Tg) (ρ : Rho) (d : D) (S : Store) : MS := match tgM t d S ρ with
  | some ρ' => pur (.nx ρ') S
  | none => none
/-- a target that no pair goes to at once -/
def unPair : Expr → Expr → Bool
  | .Tuple .., .Tuple .. => false
  | .List .., .Tuple .. => false
  | _, _ => true
theorem stores_no {tg : Expr} {env : Env} (h : unPair tg e = true) : swappedStores [tg] e env = pure none := by
  cases tg <;> first | rfl | (cases e <;> first | rfl | cases h)
theorem each_one {tg : Expr} {env : Env} (h : unStar tg = true) : (assignEach [tg] env).map (·.2) = [assign tg env] := by
  cases tg <;> first | rfl | cases h
theorem es_asg {m : M D} {t : Tg} {tg : Expr} {N : List Str} (he : EvE G X W e ρ S m) (hg : PG X tg (gOf G.K t)) (hsw : swapsWithSole [tg] e pos.line X.env = pure false) (hp : unPair tg e = true) (hu : unStar tg = true) :
    EvS G X W (.Assign [tg] e pos) ρ S (bnd m (setT t ρ)) := by
  intro r S' h σ H F A h0 hs E hE
  refine SmS.of (ps_asg smE hg hsw (stores_no hp) (each_one hu)) ?_
  show SmE X e σ H _
  refine he.bindS h h0 hs hE fun x S1 e2 v F1 A1 H1 q0 s1 hE' q1 => ?_
  unfold setT at e2
  split at e2
  · rename_i ρ' ht
    cases e2
    exact tg_ok (P := fun σ' => σ'.length = σ.length) rfl ht q0 s1 q1 rfl (fun σ' i o _ h => by rw [List.length_set]; exact h) fun σ' hσ hl => hE' σ' F1 A1 H1 hl q0 .refl hσ
  · cases e2
theorem es_asgLc {i : Nat} {y : Str} {py : Pos} {elt tg iter : Expr} {ifs : List Expr} {scope : Scope} {t : Tg} {own : List (Str × Nat)} {mi : M Wk} {mc : Rho → Store → M Bool} {me : Rho → Store → M D} {m : Bool} {spos : Pos}
    (hK : X.K = G.K) (hc : X.calm = true) (hN : X.N.Nodup) (hy : X.N[i]? = some y) (hyl : X.env.scope.names.lookup y = some .local) (hsw : swapsWith (.ListComp elt [⟨tg, iter, ifs, 0⟩] scope pos) (some (.Name y py)) spos.line X.env = pure true)
    (ok : BlkOk X.N X.env.scope scope own) (hi : EvI G X W tg iter ρ S mi) (hsl : ∀ i ∈ t.slots, i ∈ own.map (·.2)) (hg : Blks X scope fun Y => PG Y tg (gOf G.K t))
    (hct : ∀ G' : Wd, G'.toBd = G.toBd → Blks X scope fun Y => ∀ ρ S, EvTs G' Y W0 ifs ρ S (mc ρ S)) (hel : ∀ G' : Wd, G'.toBd = G.toBd → Blks X scope fun Y => ∀ ρ S, EvE G' Y W0 elt ρ S (me ρ S)) (hst : ∀ x, foldedSetIterable iter X.env x = pure x) :
    EvS G X W (.Assign [.Name y py] (.ListComp elt [⟨tg, iter, ifs, 0⟩] scope pos) spos) ρ S (bnd (bnd mi (lcM m (tgM t) mc me (wipeR ρ (own.map (·.2))))) (setT (.nm i) ρ)) := by
  intro r S' h σ H F A h0 hs E hE
  refine SmS.of (ps_setLc hc hN hy hyl hsw smI ok hg bkT bkE hst) ?_
  rcases bnd_some h with ⟨c, d, e1, e2⟩ | ⟨x, S1, e1, e2⟩
  · subst e2
    exact lc_sem hK hi hsl hct hel e1 h0 hs hE
  · refine lc_sem hK hi hsl hct hel e1 h0 hs fun v F1 A1 H1 q0 g q1 => ?_
    cases e2
    exact hE _ F1 A1 H1 (by rw [List.length_set]) q0 g ((hs.gr g).set i q1)
/-- xs[i] = v -/
def setI (ρ : Rho) (x y v : D) (S : Store) : MS := match x, y with
  | .ptr k, .int i => (match S[k]? with
    | some (.lst ds) => (match ixN ds.length i with
      | some j => pur (.nx ρ) (S.set k (.lst (ds.set j v)))
      | none => none)
    | _ => none)
  | _, _ => none
theorem sub_asg {p2 : Pos} (v : Value) : assign (.Subscript o a p2) X.env v = (do
      let ov ← holding [v] (eval o X.env)
      let iv ← holding [v, ov] (eval a X.env)
      standAt p2
      holding [v, ov, iv] (setItem ov iv v)
      release [v, ov, iv] []) ∨ notSlice a = false := by
  cases a <;> first | exact .inl rfl | exact .inr rfl
theorem es_sub {p2 : Pos} {m : M D} {mo mi : Store → M D} (he : EvE G X W e ρ S m) (ho : ∀ S1, EvE G X W o ρ S1 (mo S1)) (hi : ∀ S1, EvE G X W a ρ S1 (mi S1)) (hsw : swapsWithSole [.Subscript o a p2] e pos.line X.env = pure false) (hn : notSlice a = true) :
    EvS G X W (.Assign [.Subscript o a p2] e pos) ρ S (bnd m fun v S1 => bnd (mo S1) fun x S2 => bnd (mi S2) fun y S3 => setI ρ x y v S3) := by
  intro r S' h σ H F A h0 hs E hE
  have hasg : ∀ v, assign (.Subscript o a p2) X.env v = (do
      let ov ← holding [v] (eval o X.env)
      let iv ← holding [v, ov] (eval a X.env)
      standAt p2
      holding [v, ov, iv] (setItem ov iv v)
      release [v, ov, iv] []) := fun v => (sub_asg v).resolve_right (by rw [hn]; decide)
  refine SmS.of (ps_asg smE (pg_sub smE smE set_list hasg) hsw (stores_no rfl) (each_one rfl)) ?_
  show SmE X e σ H _
  refine he.bindS h h0 hs hE fun v S1 e2 w F1 A1 H1 q0 s1 hE1 q1 => ?_
  show SmE X o σ H1 _
  have gE := hE1
  rcases bnd_some e2 with ⟨c, d, e3, e4⟩ | ⟨x, S2, e3, e4⟩
  · subst e4
    exact ho S1 _ _ e3 σ H1 F1 A1 q0 s1 _ hE1
  refine ho S1 _ _ e3 σ H1 F1 A1 q0 s1 _ fun wo F2 A2 H2 q2 g2 q3 => ?_
  show SmE X a σ H2 _
  rcases bnd_some e4 with ⟨c, d, e5, e6⟩ | ⟨y, S3, e5, e6⟩
  · subst e6
    exact hi S2 _ _ e5 σ H2 F2 A2 q2 (s1.gr g2) _ (ErrP.gr g2 hE1)
  refine hi S2 _ _ e5 σ H2 F2 A2 q2 (s1.gr g2) _ fun wi F3 A3 H3 q4 g3 q5 => ?_
  unfold setI at e6
  split at e6
  · rename_i k i
    split at e6
    · rename_i ds hk
      split at e6
      · rename_i j hj
        cases e6
        obtain ⟨p, vs, rfl, a1, a2, a3⟩ := ptr_wr (es := ds.set j v) q4 (q3.gr g3) hk
        rw [isD_int] at q5
        refine ⟨p, vs, i, j, rfl, q5, a1, by rw [a2.len]; exact hj, ?_⟩
        exact hE1 σ F3 A3 _ rfl (a3 _ (a2.set j (q1.gr (g2.trans g3)))) (g2.trans g3) (s1.gr (g2.trans g3))
      · cases e6
    · cases e6
  · cases e6

/-! ### loops -/
def forF (stay : Store → Bool) (tg : D → Store → Rho → Option Rho) (body : Rho → Store → MS) : List D → Rho → Store → MS
  | [], ρ, S => if stay S then pur (.nx ρ) S else none
  | d :: r, ρ, S => if stay S then (match tg d S ρ with
    | some ρ' => (match body ρ' S with
      | some (.ok (.nx ρ2), S2) => forF stay tg body r ρ2 S2
      | some (.ok (.ct ρ2), S2) => forF stay tg body r ρ2 S2
      | some (.ok (.bk ρ2), S2) => pur (.nx ρ2) S2
      | some (.ok (.rt d), S2) => pur (.rt d) S2
      | some (.err c d, S2) => some (.err c d, S2)
      | none => none)
    | none => none) else none
/-- no set display -/
def unSet : Expr → Bool
  | .Set .. => false
  | _ => true
theorem folded_no {env : Env} (h : unSet e = true) : ∀ x, foldedSetIterable e env x = pure x := by
  intro x
  cases e <;> first | rfl | cases h
theorem es_for {t : Tg} {tg iter : Expr} {body : List Stmt} {mi : M Wk} {mb : Rho → Store → MS} (hp : PassesOwn (model X.prog X.w) X.A X.env X.xe) (hc : X.calm = true) (hi : EvI G X W tg iter ρ S mi) (hg : PG X tg (gOf G.K t)) (hb : ∀ ρ1 S1, EvB G X W body ρ1 S1 (mb ρ1 S1)) (hu : unSet iter = true) :
    EvS G X W (.For tg iter body [] pos) ρ S (bnd mi fun w S1 => forF w.stay (tgM t) mb w.items ρ S1) := by
  intro r S' h σ H F A h0 hs E hE
  refine SmS.of (ps_for hp hc smI hg smB (folded_no hu)) ?_
  show SmI X tg iter σ H _
  rcases bnd_some h with ⟨c, d, e1, e2⟩ | ⟨w, S1, e1, e2⟩
  · subst e2
    exact hi _ _ e1 σ H F A h0 hs _ hE
  · refine hi _ _ e1 σ H F A h0 hs _ fun J F1 A1 H1 q0 g wk => ?_
    refine ⟨fun i n σ1 H => n = w.items.length - i ∧ i ≤ w.items.length ∧ ∃ F' A' ρi Si, σ1.length = σ.length ∧ S0 G F' A' H Si ∧ Gr F1 A1 F' A' ∧ Sl G F' A' σ1 ρi ∧ forF w.stay (tgM t) mb (w.items.drop i) ρi Si = some (r, S'),
      ⟨w.items.length, rfl, Nat.zero_le _, F1, A1, ρ, S1, rfl, q0, .refl, hs.gr g, e2⟩, ?_⟩
    rintro i n σ1 H ⟨rfl, hi', F', A', ρi, Si, l1, k0, kg, ks, kf⟩
    by_cases hlt : i < w.items.length
    · have hdrop : w.items.drop i = w.items[i] :: w.items.drop (i + 1) := List.drop_eq_getElem_cons hlt
      rw [hdrop] at kf
      simp only [forF] at kf
      split at kf
      · rename_i hst
        obtain ⟨wk1, wk2⟩ := wk G.pin F' A' H Si k0 kg hst
        obtain ⟨hgo, hyl⟩ := wk1 i w.items[i] (by simp [hlt])
        refine .inr ⟨hgo, fun σ1 H => ∃ F' A' ρi Si, σ1.length = σ.length ∧ S0 G F' A' H Si ∧ Gr F1 A1 F' A' ∧ Sl G F' A' σ1 ρi ∧ forF w.stay (tgM t) mb (w.items.drop (i + 1)) ρi Si = some (r, S'),
          fun σ' H' nx => ⟨w.items.length - (i + 1), by omega, rfl, hlt, nx⟩, fun x H' y => ?_⟩
        obtain ⟨F2, y1, y2, y3⟩ := hyl x H' y
        have y1 : S0 G F2 A' H' Si := y1
        split at kf
        · rename_i ρ' htg
          refine tg_ok (P := fun σ' => σ'.length = σ1.length) rfl htg y1 (ks.gr y2) y3 rfl (fun σ' i o _ h => by rw [List.length_set]; exact h) fun σ2 hσ2 hl2 => ?_
          show SmB X body _ σ2 H'
          have hb1 := hb ρ' Si
          split at kf
          · rename_i ρ2 S2 hB
            exact hb1 _ _ hB σ2 H' F2 A' y1 hσ2 _ fun σ3 F3 A3 H3 l3 b0 bg bs => ⟨F3, A3, ρ2, S2, l3.trans (hl2.trans l1), b0, (kg.trans y2).trans bg, bs, kf⟩
          · rename_i ρ2 S2 hB
            exact hb1 _ _ hB σ2 H' F2 A' y1 hσ2 _ fun σ3 F3 A3 H3 l3 b0 bg bs => ⟨F3, A3, ρ2, S2, l3.trans (hl2.trans l1), b0, (kg.trans y2).trans bg, bs, kf⟩
          · rename_i ρ2 S2 hB
            cases kf
            exact hb1 _ _ hB σ2 H' F2 A' y1 hσ2 _ fun σ3 F3 A3 H3 l3 b0 bg bs => hE σ3 F3 A3 H3 (l3.trans (hl2.trans l1)) b0 (((g.trans kg).trans y2).trans bg) bs
          · rename_i d S2 hB
            cases kf
            exact hb1 _ _ hB σ2 H' F2 A' y1 hσ2 _ fun v F3 A3 H3 b0 bg bs => hE v F3 A3 H3 b0 (((g.trans kg).trans y2).trans bg) bs
          · rename_i c d S2 hB
            cases kf
            exact hb1 _ _ hB σ2 H' F2 A' y1 hσ2 _ ((ErrP.gr ((g.trans kg).trans y2) hE).len (hl2.trans l1))
          · cases kf
        · cases kf
      · cases kf
    · have e0 : i = w.items.length := by omega
      subst e0
      rw [List.drop_length] at kf
      simp only [forF] at kf
      split at kf
      · rename_i hst
        cases kf
        obtain ⟨wk1, wk2⟩ := wk G.pin F' A' H _ k0 kg hst
        exact .inl ⟨wk2, hE σ1 F' A' H l1 k0 (g.trans kg) ks⟩
      · cases kf
def whileF (test : Rho → Store → M Bool) (body : Rho → Store → MS) : Nat → Rho → Store → MS
  | 0, _, _ => none
  | n + 1, ρ, S => bnd (test ρ S) fun t S1 => if t = true then (match body ρ S1 with
      | some (.ok (.nx ρ2), S2) => whileF test body n ρ2 S2
      | some (.ok (.ct ρ2), S2) => whileF test body n ρ2 S2
      | some (.ok (.bk ρ2), S2) => pur (.nx ρ2) S2
      | some (.ok (.rt d), S2) => pur (.rt d) S2
      | some (.err c d, S2) => some (.err c d, S2)
      | none => none) else pur (.nx ρ) S1
theorem es_while {body : List Stmt} {mt : Rho → Store → M Bool} {mb : Rho → Store → MS} {n : Nat} (hp : PassesOwn (model X.prog X.w) X.A X.env X.xe) (ht : ∀ ρ1 S1, EvT G X W c ρ1 S1 (mt ρ1 S1)) (hb : ∀ ρ1 S1, EvB G X W body ρ1 S1 (mb ρ1 S1)) :
    EvS G X W (.While c body [] pos) ρ S (whileF mt mb n ρ S) := by
  intro r S' h σ H F A h0 hs E hE
  refine SmS.of (ps_while hp smT smB) ?_
  refine ⟨fun n σ1 H => ∃ F' A' ρi Si, σ1.length = σ.length ∧ S0 G F' A' H Si ∧ Gr F A F' A' ∧ Sl G F' A' σ1 ρi ∧ whileF mt mb n ρi Si = some (r, S'), ⟨n, F, A, ρ, S, rfl, h0, .refl, hs, h⟩, ?_⟩
  rintro n σ1 H ⟨F', A', ρi, Si, l1, k0, kg, ks, kf⟩
  show SmT X c σ1 H _
  cases n with
  | zero => cases kf
  | succ n =>
    simp only [whileF] at kf
    rcases bnd_some kf with ⟨c, d, e1, e2⟩ | ⟨t, S1, e1, e2⟩
    · subst e2
      exact ht _ _ _ _ e1 σ1 H F' A' k0 ks _ ((ErrP.gr kg hE).len l1)
    · refine ht _ _ _ _ e1 σ1 H F' A' k0 ks _ fun F1 A1 H1 q0 g => ?_
      cases t with
      | true =>
        rw [if_pos rfl] at e2
        rw [if_pos rfl]
        refine ⟨fun σ1 H => ∃ F' A' ρi Si, σ1.length = σ.length ∧ S0 G F' A' H Si ∧ Gr F A F' A' ∧ Sl G F' A' σ1 ρi ∧ whileF mt mb n ρi Si = some (r, S'), fun σ' H' nx => ⟨n, Nat.lt_succ_self _, nx⟩, ?_⟩
        show SmB X body _ σ1 H1
        have hb1 := hb ρi S1
        split at e2
        · rename_i ρ2 S2 hB
          exact hb1 _ _ hB σ1 H1 F1 A1 q0 (ks.gr g) _ fun σ3 F3 A3 H3 l3 b0 bg bs => ⟨F3, A3, ρ2, S2, l3.trans l1, b0, (kg.trans g).trans bg, bs, e2⟩
        · rename_i ρ2 S2 hB
          exact hb1 _ _ hB σ1 H1 F1 A1 q0 (ks.gr g) _ fun σ3 F3 A3 H3 l3 b0 bg bs => ⟨F3, A3, ρ2, S2, l3.trans l1, b0, (kg.trans g).trans bg, bs, e2⟩
        · rename_i ρ2 S2 hB
          cases e2
          exact hb1 _ _ hB σ1 H1 F1 A1 q0 (ks.gr g) _ fun σ3 F3 A3 H3 l3 b0 bg bs => hE σ3 F3 A3 H3 (l3.trans l1) b0 ((kg.trans g).trans bg) bs
        · rename_i d S2 hB
          cases e2
          exact hb1 _ _ hB σ1 H1 F1 A1 q0 (ks.gr g) _ fun v F3 A3 H3 b0 bg bs => hE v F3 A3 H3 b0 ((kg.trans g).trans bg) bs
        · rename_i c d S2 hB
          cases e2
          exact hb1 _ _ hB σ1 H1 F1 A1 q0 (ks.gr g) _ ((ErrP.gr (kg.trans g) hE).len l1)
        · cases e2
      | false =>
        rw [if_neg Bool.false_ne_true] at e2
        rw [if_neg Bool.false_ne_true]
        cases e2
        exact hE σ1 F1 A1 H1 l1 q0 (kg.trans g) (ks.gr g)
end
end Z


set_option Elab.async false
set_option linter.all false
set_option maxRecDepth 100000
set_option maxHeartbeats 4000000
namespace Z
open PySem PySem.Spec PyProof.Rows L2
open LamX (Tabs TabS ExtN CodeO)

/-! ## the end of a def: its own lists are frozen -/
mutual
/-- no pointer from n on -/
def okD (n : Nat) : D → Bool
  | .ptr k => Nat.blt k n
  | .tup ds => okDs n ds
  | .lst ds => okDs n ds
  | _ => true
def okDs (n : Nat) : List D → Bool
  | [] => true
  | d :: ds => okD n d && okDs n ds
end
def okO (n : Nat) : O → Bool
  | .lst ds => okDs n ds
mutual
/-- lists from n on are read out, f deep -/
def frzD (n : Nat) (S : Store) : Nat → D → Option D
  | f, .tup ds => (frzDs n S f ds).map .tup
  | f, .lst ds => (frzDs n S f ds).map .lst
  | f + 1, .ptr k => if Nat.blt k n then some (.ptr k) else (match S[k]? with
    | some (.lst ds) => (frzL n S f ds).map .lst
    | none => none)
  | 0, .ptr k => if Nat.blt k n then some (.ptr k) else none
  | _, d => some d
termination_by f d => (f, sizeOf d)
def frzDs (n : Nat) (S : Store) : Nat → List D → Option (List D)
  | _, [] => some []
  | f, d :: ds => match frzD n S f d, frzDs n S f ds with
    | some x, some xs => some (x :: xs)
    | _, _ => none
termination_by f ds => (f, sizeOf ds)
def frzL (n : Nat) (S : Store) (f : Nat) (ds : List D) : Option (List D) := frzDs n S f ds
termination_by (f + 1, 0)
end
mutual
theorem frz_same {n : Nat} {S : Store} : ∀ (f : Nat) (d : D), okD n d = true → frzD n S f d = some d
  | f, .tup ds, h => by
    simp only [frzD]
    rw [frzs_same f ds (by simpa only [okD] using h)]
    rfl
  | f, .lst ds, h => by
    simp only [frzD]
    rw [frzs_same f ds (by simpa only [okD] using h)]
    rfl
  | 0, .ptr k, h => by
    simp only [frzD]
    rw [if_pos (by simpa only [okD] using h)]
  | f + 1, .ptr k, h => by
    simp only [frzD]
    rw [if_pos (by simpa only [okD] using h)]
  | f, .non, _ => by simp [frzD]
  | f, .bl b, _ => by simp [frzD]
  | f, .int b, _ => by simp [frzD]
  | f, .str b, _ => by simp [frzD]
  | f, .fn b, _ => by simp [frzD]
  | f, .scr b, _ => by simp [frzD]
theorem frzs_same {n : Nat} {S : Store} : ∀ (f : Nat) (ds : List D), okDs n ds = true → frzDs n S f ds = some ds
  | f, [], _ => by simp [frzDs]
  | f, d :: ds, h => by
    simp only [okDs, Bool.and_eq_true] at h
    simp only [frzDs]
    rw [frz_same f d h.1, frzs_same f ds h.2]
end
/-- the heap's facts when the lists B are frozen -/
noncomputable def frzF (F H : Hp) (B : List Addr) : Hp := fun a => if a ∈ B then H a else F a
section
variable {G : Wd} {F H : Hp} {A : List Addr} {S : Store} {n : Nat}
theorem frz_gr (h0 : S0 G F A H S) (a : Addr) (o : HO) (e : F a = some o) : frzF F H (A.drop n) a = some o := by
  unfold frzF
  rw [if_neg, e]
  intro hm
  rw [h0.out a (List.mem_of_mem_drop hm)] at e
  cases e
theorem frz_sqt (h0 : S0 G F A H S) {p : Addr} {vs : List V} (h : SqT G.K F p vs) : SqT G.K (frzF F H (A.drop n)) p vs := by
  rcases h with (h | ⟨o, h⟩) | h
  · exact .inl (.inl (frz_gr h0 _ _ h))
  · exact .inl (.inr ⟨o, frz_gr h0 _ _ h⟩)
  · exact .inr h
theorem frz_sql (h0 : S0 G F A H S) {p : Addr} {vs : List V} (h : SqL G.K F p vs) : SqL G.K (frzF F H (A.drop n)) p vs := by
  rcases h with (h | ⟨o, h⟩) | h
  · exact .inl (.inl (frz_gr h0 _ _ h))
  · exact .inl (.inr ⟨o, frz_gr h0 _ _ h⟩)
  · exact .inr h
mutual
theorem ok_frz (h0 : S0 G F A H S) : ∀ (d : D) (v : V), okD n d = true → IsD G F A d v → IsD G (frzF F H (A.drop n)) (A.take n) d v
  | .non, v, _, h => isD_non.mpr (isD_non.mp h)
  | .bl b, v, _, h => isD_bl.mpr (isD_bl.mp h)
  | .int b, v, _, h => isD_int.mpr (isD_int.mp h)
  | .str b, v, _, h => isD_str.mpr (isD_str.mp h)
  | .fn b, v, _, h => by simpa only [IsD] using h
  | .scr b, v, _, h => by
    simp only [IsD] at h ⊢
    obtain ⟨p, e, h1⟩ := h
    exact ⟨p, e, frz_sql h0 h1⟩
  | .tup ds, v, k, h => by
    rw [isD_tup] at h ⊢
    obtain ⟨p, vs, e, h1, h2⟩ := h
    exact ⟨p, vs, e, frz_sqt h0 h1, oks_frz h0 ds vs (by simpa only [okD] using k) h2⟩
  | .lst ds, v, k, h => by
    rw [isD_lst] at h ⊢
    obtain ⟨p, vs, e, h1, h2⟩ := h
    exact ⟨p, vs, e, frz_gr h0 _ _ h1, oks_frz h0 ds vs (by simpa only [okD] using k) h2⟩
  | .ptr k, v, hk, h => by
    simp only [IsD] at h ⊢
    obtain ⟨p, e, h1⟩ := h
    have hk' : Nat.blt k n = true := by simpa only [okD] using hk
    have : k < n := Nat.le_of_ble_eq_true hk'
    exact ⟨p, by rw [List.getElem?_take_of_lt this]; exact e, h1⟩
theorem oks_frz (h0 : S0 G F A H S) : ∀ (ds : List D) (vs : List V), okDs n ds = true → IsDs G F A ds vs → IsDs G (frzF F H (A.drop n)) (A.take n) ds vs
  | [], vs, _, h => isDs_nil.mpr (isDs_nil.mp h)
  | d :: ds, vs, k, h => by
    simp only [okDs, Bool.and_eq_true] at k
    obtain ⟨v, ws, e, h1, h2⟩ := isDs_cons.mp h
    exact isDs_cons.mpr ⟨v, ws, e, ok_frz h0 d v k.1 h1, oks_frz h0 ds ws k.2 h2⟩
end
mutual
theorem frz_ok (h0 : S0 G F A H S) : ∀ (f : Nat) (d : D) (d' : D) (v : V), frzD n S f d = some d' → IsD G F A d v → IsD G (frzF F H (A.drop n)) (A.take n) d' v
  | f, .non, d', v, e, h => by
    simp only [frzD, Option.some.injEq] at e
    subst e
    exact isD_non.mpr (isD_non.mp h)
  | f, .bl b, d', v, e, h => by
    simp only [frzD, Option.some.injEq] at e
    subst e
    exact isD_bl.mpr (isD_bl.mp h)
  | f, .int b, d', v, e, h => by
    simp only [frzD, Option.some.injEq] at e
    subst e
    exact isD_int.mpr (isD_int.mp h)
  | f, .str b, d', v, e, h => by
    simp only [frzD, Option.some.injEq] at e
    subst e
    exact isD_str.mpr (isD_str.mp h)
  | f, .fn b, d', v, e, h => by
    simp only [frzD, Option.some.injEq] at e
    subst e
    simpa only [IsD] using h
  | f, .scr b, d', v, e, h => by
    simp only [frzD, Option.some.injEq] at e
    subst e
    simp only [IsD] at h ⊢
    obtain ⟨p, e, h1⟩ := h
    exact ⟨p, e, frz_sql h0 h1⟩
  | f, .tup ds, d', v, e, h => by
    simp only [frzD, Option.map_eq_some_iff] at e
    obtain ⟨ds', e, rfl⟩ := e
    rw [isD_tup] at h ⊢
    obtain ⟨p, vs, e', h1, h2⟩ := h
    exact ⟨p, vs, e', frz_sqt h0 h1, frzs_ok h0 f ds ds' vs e h2⟩
  | f, .lst ds, d', v, e, h => by
    simp only [frzD, Option.map_eq_some_iff] at e
    obtain ⟨ds', e, rfl⟩ := e
    rw [isD_lst] at h ⊢
    obtain ⟨p, vs, e', h1, h2⟩ := h
    exact ⟨p, vs, e', frz_gr h0 _ _ h1, frzs_ok h0 f ds ds' vs e h2⟩
  | 0, .ptr k, d', v, e, h => by
    simp only [frzD] at e
    split at e
    · rename_i hk
      cases e
      exact ok_frz h0 _ _ (by simpa only [okD] using hk) h
    · cases e
  | f + 1, .ptr k, d', v, e, h => by
    simp only [frzD] at e
    split at e
    · rename_i hk
      cases e
      exact ok_frz h0 _ _ (by simpa only [okD] using hk) h
    · rename_i hk
      split at e
      · rename_i ds hS
        simp only [frzL, Option.map_eq_some_iff] at e
        obtain ⟨ds', e, rfl⟩ := e
        have h' := h
        simp only [IsD] at h'
        obtain ⟨q, hq, z⟩ := h'
        obtain ⟨p, vs, rfl, a1, a2⟩ := seq_at h0 h (ds := ds) (by simp [seqD, hS])
        obtain rfl : q = p := by cases z; rfl
        have hn : n ≤ k := by
          have : ¬ k < n := fun z => hk (Nat.ble_eq_true_of_le z)
          omega
        refine isD_lst.mpr ⟨q, vs, rfl, ?_, frzs_ok h0 f ds ds' vs e a2⟩
        unfold frzF
        rw [if_pos, a1]
        refine List.mem_of_getElem? (i := k - n) ?_
        rw [List.getElem?_drop, show n + (k - n) = k by omega]
        exact hq
      · cases e
termination_by f d => (f, sizeOf d)
theorem frzs_ok (h0 : S0 G F A H S) : ∀ (f : Nat) (ds ds' : List D) (vs : List V), frzDs n S f ds = some ds' → IsDs G F A ds vs → IsDs G (frzF F H (A.drop n)) (A.take n) ds' vs
  | f, [], ds', vs, e, h => by
    simp only [frzDs, Option.some.injEq] at e
    subst e
    exact isDs_nil.mpr (isDs_nil.mp h)
  | f, d :: ds, ds', vs, e, h => by
    simp only [frzDs] at e
    split at e
    · rename_i x xs e1 e2
      cases e
      obtain ⟨v, ws, e', h1, h2⟩ := isDs_cons.mp h
      exact isDs_cons.mpr ⟨v, ws, e', frz_ok h0 f d x v e1 h1, frzs_ok h0 f ds xs ws e2 h2⟩
    · cases e
termination_by f ds => (f, sizeOf ds)
end
/-- the store is cut at n -/
theorem S0.cut (h0 : S0 G F A H S) (hok : ∀ o ∈ S.take n, okO n o = true) : S0 G (frzF F H (A.drop n)) (A.take n) H (S.take n) := by
  have mem : ∀ a ∈ A.take n, a ∉ A.drop n := fun a h1 h2 => by
    have := h0.nd
    rw [← List.take_append_drop n A, List.nodup_append] at this
    exact this.2.2 a h1 a h2 rfl
  refine ⟨fun a o e => ?_, fun a ha => ?_, h0.nd.sublist (List.take_sublist n A), by simp [h0.len], fun k p o e1 e2 => ?_, fun a ps e => ?_, h0.tab, fun a o e => ?_, h0.npt⟩
  · unfold frzF at e
    split at e
    · exact e
    · exact h0.sub a o e
  · unfold frzF
    rw [if_neg (mem a ha)]
    exact h0.out a (List.mem_of_mem_take ha)
  · have hk : k < n := by
      have := (List.getElem?_eq_some_iff.mp e1).1
      rw [List.length_take] at this
      omega
    rw [List.getElem?_take_of_lt hk] at e1 e2
    obtain ⟨u, h1, h2⟩ := h0.obj k p o e1 e2
    refine ⟨u, h1, ?_⟩
    have hm : o ∈ S.take n := List.mem_of_getElem? (i := k) (by rw [List.getElem?_take_of_lt hk]; exact e2)
    have := hok o hm
    cases o with
    | lst ds =>
      obtain ⟨vs, e, h3⟩ := h2
      exact ⟨vs, e, oks_frz h0 ds vs (by simpa only [okO] using this) h3⟩
  · unfold frzF at e
    split at e
    · rename_i hm
      obtain ⟨k, hk⟩ := List.mem_iff_getElem?.mp (List.mem_of_mem_drop hm)
      have hl : k < S.length := by rw [← h0.len]; exact (List.getElem?_eq_some_iff.mp hk).1
      obtain ⟨u, e1, e2⟩ := h0.obj k a S[k] hk (by simp [hl])
      rw [e1] at e
      cases e
      cases hS : S[k] with
      | lst ds =>
        rw [hS] at e2
        obtain ⟨vs, z, _⟩ := e2
        cases z
    · exact h0.ntb a ps e
  · obtain ⟨h1, h2, h3⟩ := h0.pin a o e
    refine ⟨h1, ?_, fun z => h3 (List.mem_of_mem_take z)⟩
    unfold frzF
    rw [if_neg (fun z => h3 (List.mem_of_mem_drop z))]
    exact h2
end
/-- what a def gives -/
def endD (n : Nat) (d : D) (S : Store) : Option (D × Store) :=
  if S.length == n then some (d, S) else if (S.take n).all (okO n) then (frzD n S 6 d).map fun d' => (d', S.take n) else none
def retF (body : List D → Store → MS) : Fn := fun ds S => match body ds S with
  | some (.ok (.rt d), S1) => lft (endD S.length d S1)
  | some (.ok (.nx _), S1) => lft (endD S.length .non S1)
  | some (.err c d, S1) => (endD S.length d S1).map fun q => (.err c q.1, q.2)
  | _ => none
theorem end_ok {G : Wd} {F F0 H : Hp} {A A0 : List Addr} {S S' : Store} {n : Nat} {d d' : D} {v : V} (h : endD n d S = some (d', S')) (h0 : S0 G F A H S) (g : Gr F0 A0 F A) (hn : A0.length = n) (hv : IsD G F A d v) :
    ∃ F' A', S0 G F' A' H S' ∧ Gr F0 A0 F' A' ∧ IsD G F' A' d' v ∧ ∀ a o, F a = some o → F' a = some o := by
  unfold endD at h
  split at h
  · cases h
    exact ⟨F, A, h0, g, hv, fun _ _ e => e⟩
  · split at h
    · rename_i hok
      rw [Option.map_eq_some_iff] at h
      obtain ⟨x, e1, e2⟩ := h
      cases e2
      rw [List.all_eq_true] at hok
      refine ⟨_, _, h0.cut hok, ⟨fun a o e => frz_gr h0 a o (g.ex a o e), [], ?_⟩, frz_ok h0 6 d d' v e1 hv, fun a o e => frz_gr h0 a o e⟩
      obtain ⟨B, hB⟩ := g.pre
      rw [hB, List.append_nil, ← hn, List.take_left']
      rfl
    · cases h
/-- the slots at the entry -/
def startR (N : List Str) (ds : List D) : Rho := ds.map some ++ List.replicate (N.length - ds.length) none
theorem start_sl {B : Bd} {F : Hp} {A : List Addr} {N : List Str} {ds : List D} {vs : List V} (h : IsDs B F A ds vs) : Sl B F A (L2.start N vs) (startR N ds) := by
  refine ⟨by simp [L2.start, startR, h.len], fun i d e => ?_⟩
  unfold startR at e
  by_cases hi : i < ds.length
  · rw [List.getElem?_append_left (by simpa using hi), List.getElem?_map, Option.map_eq_some_iff] at e
    obtain ⟨d', e1, e2⟩ := e
    cases e2
    obtain ⟨v, e3, e4⟩ := h.get e1
    refine ⟨v, ?_, e4⟩
    unfold L2.start
    rw [List.getElem?_append_left (by rw [List.length_map, h.len]; exact hi), List.getElem?_map, e3]
    rfl
  · rw [List.getElem?_append_right (by simpa using hi)] at e
    rw [List.getElem?_replicate] at e
    split at e <;> cases e
/-- where lambdas are made: the code's table is known -/
structure LamC (B : Bd) (X : Cx) : Prop where
  ex : ∃ c P, LamX.TabB X.base X.mg c P ∧ X.env.code = .ref c ∧ (P, X.env.qual ++ "<lambda>") ∈ B.T ∧ ∀ p ∈ B.T, p.1 = P → p.2 = X.env.qual ++ "<lambda>"
/-- the context of a def's body -/
structure Ct (B : Bd) (tl : Bool) (k : Nat) (N : List Str) (fn : Str → Bool) (sc : Scope) (X : Cx) (W : WX) : Prop where
  on : On B X
  eN : X.N = N
  nd : N.Nodup
  eF : X.fn = fn
  eS : X.env.scope = sc
  kind : sc.kind = .function
  calm : X.calm = true
  room : Room k X.A
  tk : Takes X W
  pass : PassesOwn (model X.prog X.w) X.A X.env X.xe
  stk : (X.stack = X.env :: X.outer ∧ X.env.frame = some X.env.locals ∧ X.ex = []) ∨ W = W0
  lam : tl = true → LamC B X
/-- THE RULE for a def -/
theorem fn_okF {B : Bd} {tl : Bool} {x : Str} {st : Stmt} {a : Addr} {fd : FuncData} {N ps : List Str} {k n : Nat} {body : List D → Store → MS} (F : Fun B.K x x st a fd) (S : FnScope N ps (defScope st)) (hn : ps.length = n)
    (hlam : tl = true → ∃ c P, fd.code = .ref c ∧ LamX.TabB B.base B.mg c P ∧ (P, (x ++ ".<locals>.") ++ "<lambda>") ∈ B.T ∧ ∀ p ∈ B.T, p.1 = P → p.2 = (x ++ ".<locals>.") ++ "<lambda>")
    (hb : ∀ (X : Cx) (W : WX), Ct B tl k N (fun _ => true) (defScope st) X W → ∀ (G : Wd), G.toBd = B → ∀ ds S, ds.length = n → EvB G X W (defBody st) (startR N ds) S (body ds S)) : FnOk B.P B.w B.K B.mg B.base (L2.CX B.P B.w) (k + 1) a fd ps (FnSp B n (retF body)) := by
  have hlen : ∀ vs H Q E, FnSp B n (retF body) vs H Q E → vs.length = ps.length := by
    rintro vs H Q E ⟨pin, ds, S, F, A, r, S', h0, hv, hl, _⟩
    rw [hv.len, hl, hn]
  obtain ⟨oc, od, kV, doc, pm, an, cdv, cdt, osl, rfl, lk, hcd⟩ := F.ex
  refine fn_of lk hcd S hlen fun Ar outer s H vs Q E hr hsp => ⟨_, smB, ?_⟩
  obtain ⟨pin, ds, S1, F1, A1, r, S', h0, hv, hl, hf, hpost⟩ := hsp
  have tk : Takes (cxOf (L2.CX B.P B.w) B.P B.w B.K B.mg B.base N x (defScope st) a cdv Ar outer s H E) (fun cls d _ H => E cls d H) := takes_of rfl rfl rfl rfl
  have ctx : Ct B tl k N (fun _ => true) (defScope st) (cxOf (L2.CX B.P B.w) B.P B.w B.K B.mg B.base N x (defScope st) a cdv Ar outer s H E) (fun cls d _ H => E cls d H) :=
    ⟨⟨rfl, rfl, rfl, rfl, rfl⟩, rfl, S.nd, rfl, rfl, S.kind, rfl, hr, tk, passes_of rfl, .inl ⟨rfl, rfl, rfl⟩, fun htl => by
      obtain ⟨c, P, e, h1, h2, h3⟩ := hlam htl
      exact ⟨⟨c, P, h1, e, h2, h3⟩⟩⟩
  have hbb := hb _ _ ctx ⟨B, pin⟩ rfl ds S1 hl
  have hA : A1.length = S1.length := h0.len
  unfold retF at hf
  split at hf
  · rename_i d S2 hbd
    cases he : endD S1.length d S2 with
    | none => rw [he] at hf; cases hf
    | some q =>
      obtain ⟨d', S3⟩ := q
      rw [he] at hf
      cases hf
      refine hbb _ _ hbd _ _ F1 A1 h0 (start_sl hv) _ fun v F' A' H' k0 kg kv => ?_
      obtain ⟨F2, A2, e1, e2, e3, _⟩ := end_ok he k0 kg hA kv
      exact hpost v F2 A2 H' e1 e2 e3
  · rename_i ρ' S2 hbd
    cases he : endD S1.length .non S2 with
    | none => rw [he] at hf; cases hf
    | some q =>
      obtain ⟨d', S3⟩ := q
      rw [he] at hf
      cases hf
      refine hbb _ _ hbd _ _ F1 A1 h0 (start_sl hv) _ fun σ' F' A' H' hl k0 kg ks => ?_
      obtain ⟨F2, A2, e1, e2, e3, _⟩ := end_ok (v := .non) he k0 kg hA (isD_non.mpr rfl)
      exact hpost .non F2 A2 H' e1 e2 e3
  · rename_i c d S2 hbd
    rw [Option.map_eq_some_iff] at hf
    obtain ⟨⟨d', S3⟩, he, hf⟩ := hf
    cases hf
    refine hbb _ _ hbd _ _ F1 A1 h0 (start_sl hv) _ fun C dd v F' A' H' σ' hl k0 kg hc hx kv => ?_
    obtain ⟨F2, A2, e1, e2, e3, e4⟩ := end_ok he k0 kg hA kv
    exact hpost C dd v F2 A2 H' e1 e2 hc (e4 _ _ hx) e3
  · cases hf
theorem fn_link {B : Bd} {tl : Bool} {x : Str} {st : Stmt} {a : Addr} {fd : FuncData} {N ps : List Str} {k n : Nat} {body : List D → Store → MS} (F : Fun B.K x x st a fd) (S : FnScope N ps (defScope st)) (hm : B.mg x = some (.ref a)) (bi : Binds B.K fd ps []) (hn : ps.length = n)
    (hlam : tl = true → ∃ c P, fd.code = .ref c ∧ LamX.TabB B.base B.mg c P ∧ (P, (x ++ ".<locals>.") ++ "<lambda>") ∈ B.T ∧ ∀ p ∈ B.T, p.1 = P → p.2 = (x ++ ".<locals>.") ++ "<lambda>")
    (hb : ∀ (X : Cx) (W : WX), Ct B tl k N (fun _ => true) (defScope st) X W → ∀ (G : Wd), G.toBd = B → ∀ ds S, ds.length = n → EvB G X W (defBody st) (startR N ds) S (body ds S)) : FnLink B (k + 1) x n (retF body) :=
  ⟨a, fd, ps, hn, fn_okF (tl := tl) F S hn hlam hb, hm, F.kp, bi⟩
end Z


set_option Elab.async false
set_option linter.all false
set_option maxRecDepth 100000
set_option maxHeartbeats 4000000
namespace Z
open PySem PySem.Spec PyProof.Rows L2
open LamX (Tabs TabS ExtN CodeO)

theorem boot_isi : bootBuiltins ("isinstance" : Str) = some (.builtin "isinstance") := by kernel_rfl
/-! ## told: an error that a call raises is told of -/
/-- if isinstance(e, c): told.append((c, e.f)) -/
inductive ToldIf (c : Str) : Stmt → Prop where
  | mk (p1 p2 p3 p4 p5 p6 p7 p8 p9 q1 q2 q3 q4 : Pos) (k k2 : Nat) (hl : (p6.endLine == q2.line) = true) : ToldIf c (.If (.Call (.Name "isinstance" p1) [.Name "e" p2, .Name c p3] [] p4) [.Expr (.Call (.Attribute (.Name "told" p5) "append" p6) [.Tuple [.Constant (.str c) k p7, .Attribute (.Name "e" p8) (fld c) p9] k2 q1] [] q2) q3] [] q4)
inductive ToldIfs : List Str → List Stmt → List Stmt → Prop where
  | nil (r : List Stmt) : ToldIfs [] r r
  | cons {c : Str} {cs : List Str} {st : Stmt} {r r' : List Stmt} (h : ToldIf c st) (t : ToldIfs cs r r') : ToldIfs (c :: cs) (st :: r) r'
inductive ToldBody : List Stmt → Prop where
  | mk (p1 p2 p3 p4 p5 p6 p7 p8 p9 q1 q2 q3 q4 q5 q6 q7 q8 q9 : Pos) (k1 k2 k3 k4 : Nat) (sts : List Stmt) (h : ToldIfs excL sts [.Return (some (.Tuple [.Constant (.str "raised") k1 p1, .Name "told" p2] k2 p3)) p4]) :
      ToldBody [.Try [.Assign [.Name "told" p5] (.Call (.Name "call" p6) [] [] p7) p8] [.ExceptHandler (some (.Name "CoreError" p9)) (some "e") (.Assign [.Name "told" q1] (.List [] q2) q3 :: sts) q4] [] [] q5,
        .Return (some (.Tuple [.Constant (.str "value") k3 q6, .Name "told" q7] k4 q8)) q9]
/-- what isinstance asks of such a class -/
structure IsC (B : Bd) (c : Str) (C : Addr) : Prop where
  m : B.mg c = some (.ref C)
  g : ExcC B.K C
  xf : XfC B.K C
  no : PySem.W.findIn B.K (.ref C) (fld c) = some none
  cl : (PySem.W.clsIn B.K C).isSome = true
structure ToldOk (B : Bd) : Prop where
  core : ∃ C, B.mg "CoreError" = some (.ref C) ∧ ∀ c ∈ excL, ∀ D, B.mg c = some (.ref D) → PySem.W.exmOne B.K (.ref D) (.ref C) = some true
  cls : ∀ c ∈ excL, ∃ C, IsC B c C
  kit : ∀ c ∈ excL, ∀ c' ∈ excL, ∀ C D, B.mg c = some (.ref C) → B.mg c' = some (.ref D) → PySem.W.kitOne B.K (.ref C) (.ref D) = some (decide (c = c'))
  isi : B.mg "isinstance" = none
  fn : ∃ (g : Addr) (fd : FuncData) (st : Stmt), Fun B.K "_law_told" "_law_told" st g fd ∧ B.mg "_law_told" = some (.ref g) ∧ L2.Binds B.K fd ["call"] [] ∧ FnScope ["call", "told", "e"] ["call"] (defScope st) ∧ ToldBody (defBody st) ∧
    (∀ y ∈ (["isinstance", "CoreError"] : List Str) ++ excL, (defScope st).names.lookup y = some .globalImplicit) ∧ (∀ y ∈ (["call", "told", "e"] : List Str), (defScope st).names.lookup y = some .local)

section
variable {X : Cx} {a D : Addr} {oe : Obj} {dd : Addr} {pn : List (Addr × Obj)}
/-- isinstance(e, c) of the caught exception, its dict at dd -/
theorem call_isX {fs : List (Str × V)} {C : Addr} {b : Bool} (E : ExcC X.K D) (hcl : (PySem.W.clsIn X.K D).isSome = true) (hz : Zc (.ref D) (some dd) oe) (hf : ∃ vs, oe.data = .fields vs) (hk : PySem.W.kitOne X.K (.ref D) (.ref C) = some b) :
    CallR (X.suite a ((a, oe) :: pn)) (.builtin "isinstance") (fun xs H Q => xs = [.ref a, .ref C] ∧ H dd = some (.xd fs) ∧ Q (.bl b) H) := by
  intro pins s σ H xs us Q I r h
  obtain ⟨rfl, hdd, q⟩ := h
  obtain ⟨u1, u2, rfl, r1, r2⟩ := vals2 r
  obtain rfl : u1 = .ref a := r1
  obtain rfl : u2 = .ref C := r2
  obtain ⟨hget, _⟩ := I.pin (a, oe) (List.mem_append.mpr (.inl List.mem_cons_self))
  obtain ⟨vs, hv⟩ := hf
  obtain ⟨mA, hns, hr⟩ := (show ObjOk X.prog X.w H s.heap dd (.xd fs) from I.hok dd _ hdd)
  obtain ⟨od, ho, hl⟩ := lookIn_ns hns
  have J : PySem.W.InstAt s.heap a oe D (some od) := ⟨hget, hz.1, by unfold PySem.W.notCls; rw [hv] <;> rfl, by rw [hz.2]; exact ho⟩
  exact PySem.W.kia_one (PySem.W.kitx_exc hcl E.hg E.hk E.hs E.ha E.hn E.ht E.hm) I.kIn J hk (fun z => nomatch z) fun tk => ⟨.bl b, H, I.kept (t' := tk) fun _ _ z => z, rfl, q⟩
end
section
variable {B : Bd} {Z0 : Cx} {a C dd : Addr} {oe : Obj} {pn : List (Addr × Obj)} {c : Str} {y : V} {sc : Scope}
/-- where told's suite stands -/
structure InTold (B : Bd) (Z0 : Cx) (sc : Scope) : Prop where
  on : On B Z0
  eN : Z0.N = (["call", "told", "e"] : List Str)
  eS : Z0.env.scope = sc
  gl : ∀ y ∈ (["isinstance", "CoreError"] : List Str) ++ excL, sc.names.lookup y = some .globalImplicit
  lc : ∀ y ∈ (["call", "told", "e"] : List Str), sc.names.lookup y = some .local
theorem InTold.g (T : InTold B Z0 sc) {y : Str} (h : y ∈ (["isinstance", "CoreError"] : List Str) ++ excL) : Gl Z0 y := by
  show Z0.env.scope.names.lookup y = _
  rw [T.eS]; exact T.gl y h
theorem InTold.v (T : InTold B Z0 sc) {y : Str} (h : y ∈ (["call", "told", "e"] : List Str)) : Vis Z0.env.scope y := by
  rw [T.eS]; exact .inl (T.lc y h)
theorem exc_dbg {c : Str} (h : c ∈ excL) : (c == ("__debug__" : Str)) = false := by
  have : (excL.all fun x => !(x == ("__debug__" : Str))) = true := by decide +kernel
  have := List.all_eq_true.mp this c h
  simpa using this
theorem ev3 (T : InTold B Z0 sc) {p : Pos} : PE (Z0.suite a ((a, oe) :: pn)) (.Name "e" p) (tVar 2) :=
  pe_var (X := Z0.suite a ((a, oe) :: pn)) (show Z0.N[2]? = some ("e" : Str) by rw [T.eN]; rfl) (T.v (by simp)) (by decide) (by decide)
theorem told3 (T : InTold B Z0 sc) {p : Pos} : PE (Z0.suite a ((a, oe) :: pn)) (.Name "told" p) (tVar 1) :=
  pe_var (X := Z0.suite a ((a, oe) :: pn)) (show Z0.N[1]? = some ("told" : Str) by rw [T.eN]; rfl) (T.v (by simp)) (by decide) (by decide)
theorem told_if (T : InTold B Z0 sc) (O : ToldOk B) (hc : c ∈ excL) (I : IsC B c C) (hz : Zc (.ref C) (some dd) oe) (hf : ∃ vs, oe.data = .fields vs) {c' : Str} (hc' : c' ∈ excL) {st : Stmt} (h : ToldIf c' st) {r : List Stmt} {σ : L2.St} {H : Hp} {E : Ends} (hσ : σ[2]? = some (some (.ref a))) (hH : H dd = some (.xd [(fld c, y)]))
    (hno : c ≠ c' → SmB (Z0.suite a ((a, oe) :: pn)) r E σ H)
    (hyes : c = c' → ∃ l acc, σ[1]? = some (some (.ref l)) ∧ H l = some (.lst acc) ∧ acc.length < 100 ∧ ∀ t, H t = none → SmB (Z0.suite a ((a, oe) :: pn)) r E σ (upd (upd H t (.tup [.str c, y])) l (.lst (acc ++ [.ref t])))) :
    SmB (Z0.suite a ((a, oe) :: pn)) (st :: r) E σ H := by
  obtain ⟨p1, p2, p3, p4, p5, p6, p7, p8, p9, q1, q2, q3, q4, k, k2, hl⟩ := h
  obtain ⟨C', I'⟩ := O.cls c' hc'
  have hk : PySem.W.kitOne (Z0.suite a ((a, oe) :: pn)).K (.ref C) (.ref C') = some (decide (c = c')) := by
    show PySem.W.kitOne Z0.K _ _ = _
    rw [T.on.K]; exact O.kit c hc c' hc' C C' I.m I'.m
  have eg : PE (Z0.suite a ((a, oe) :: pn)) (.Name c' p3) (tC (.ref C')) := pe_glob (X := Z0.suite a ((a, oe) :: pn)) (T.g (List.mem_append_right _ hc')) (by show Z0.mg c' = _; rw [T.on.mg]; exact I'.m) rfl (exc_dbg hc')
  have hcall := call_isX (X := Z0) (a := a) (pn := pn) (fs := [(fld c, y)]) (by rw [T.on.K]; exact I.g) (by rw [T.on.K]; exact I.cl) hz hf hk
  have hi : PE (Z0.suite a ((a, oe) :: pn)) (.Call (.Name "isinstance" p1) [.Name "e" p2, .Name c' p3] [] p4) _ :=
    pe_callB (X := Z0.suite a ((a, oe) :: pn)) hcall (T.g (by simp)) (by show Z0.mg _ = _; rw [T.on.mg]; exact O.isi) boot_isi (pa_cons (ev3 T) (pa_cons eg pa_nil rfl) rfl) (by decide) (by decide) rfl rfl
  refine SmB.of (pss_cons (ps_if (pt_truth hi (plainT_ok rfl)) smB pss_nil) smB) ?_
  refine ⟨.ref a, hσ, rfl, hH, decide (c = c'), rfl, ?_⟩
  by_cases hcc : c = c'
  · subst hcc
    have e : decide (c = c) = true := by simp
    rw [e]
    show SmB _ _ _ σ H
    obtain ⟨l, acc, hl1, hl2, hl3, hq⟩ := hyes rfl
    have hxf : PE (Z0.suite a ((a, oe) :: pn)) (.Attribute (.Name "e" p8) (fld c) p9) (tXf a (.ref C) (some dd) C (fld c) (tVar 2)) :=
      pe_xf (by rw [T.on.K]; exact I.xf) (by rw [T.on.K]; exact I.no) hz hf (ev3 T) rfl
    refine SmB.of (pss_one (ps_expr (pe_bm PySem.F.plainAttrs_list PySem.F.slot_list_append PySem.F.type_list_append mt_append (told3 T) (pa_cons (pe_tup (pa_cons pe_str (pa_cons hxf pa_nil rfl) rfl)) pa_nil rfl) rfl rfl hl rfl rfl) rfl)) ?_
    refine ⟨.ref l, hl1, .inl ⟨rfl, acc, SqL.of hl2⟩, ?_⟩
    refine ⟨.ref a, hσ, rfl, rfl, dd, _, y, rfl, hH, by simp [List.lookup_cons], ?_⟩
    refine ⟨by show 2 ≤ _; rw [sizeLine_eq]; decide, fun t ht => ?_⟩
    have hlt : l ≠ t := ne_of_none hl2 ht
    refine ⟨l, acc, .ref t, rfl, rfl, by rw [upd_ne hlt]; exact hl2, by rw [sizeLine_eq]; omega, ?_⟩
    exact hq t ht
  · have e : decide (c = c') = false := by simp [hcc]
    rw [e]
    exact hno hcc
/-- the tests that say no -/
theorem told_skip (T : InTold B Z0 sc) (O : ToldOk B) (hc : c ∈ excL) (I : IsC B c C) (hz : Zc (.ref C) (some dd) oe) (hf : ∃ vs, oe.data = .fields vs) {σ : L2.St} {E : Ends} (hσ : σ[2]? = some (some (.ref a))) :
    ∀ {cs : List Str} {sts r : List Stmt} {H : Hp}, ToldIfs cs sts r → (∀ c' ∈ cs, c' ∈ excL ∧ c ≠ c') → H dd = some (.xd [(fld c, y)]) → SmB (Z0.suite a ((a, oe) :: pn)) r E σ H → SmB (Z0.suite a ((a, oe) :: pn)) sts E σ H
  | _, _, _, H, .nil r, _, _, q => q
  | _, _, _, H, .cons h t, hcs, hH, q => by
    obtain ⟨h1, h2⟩ := hcs _ List.mem_cons_self
    exact told_if T O hc I hz hf h1 h hσ hH (fun _ => told_skip T O hc I hz hf hσ t (fun c' hc' => hcs c' (List.mem_cons_of_mem _ hc')) hH q) fun e => absurd e h2
theorem ifs_split {cs ds : List Str} : ∀ {sts r : List Stmt}, ToldIfs (cs ++ ds) sts r → ∃ m, ToldIfs cs sts m ∧ ToldIfs ds m r := by
  induction cs with
  | nil => intro sts r h; exact ⟨sts, .nil _, h⟩
  | cons c cs ih =>
    intro sts r h
    cases h with
    | cons h t =>
      obtain ⟨m, h1, h2⟩ := ih t
      exact ⟨m, .cons h h1, h2⟩
/-- all of them: one says yes -/
theorem told_all (T : InTold B Z0 sc) (O : ToldOk B) (hc : c ∈ excL) (I : IsC B c C) (hz : Zc (.ref C) (some dd) oe) (hf : ∃ vs, oe.data = .fields vs) {σ : L2.St} {E : Ends} {l : Addr} (hσ : σ[2]? = some (some (.ref a))) (hσ1 : σ[1]? = some (some (.ref l)))
    {sts r : List Stmt} {H : Hp} (hs : ToldIfs excL sts r) (hH : H dd = some (.xd [(fld c, y)])) (hl : H l = some (.lst []))
    (q : ∀ t, H t = none → SmB (Z0.suite a ((a, oe) :: pn)) r E σ (upd (upd H t (.tup [.str c, y])) l (.lst [.ref t]))) : SmB (Z0.suite a ((a, oe) :: pn)) sts E σ H := by
  obtain ⟨pre, post, e⟩ := List.append_of_mem hc
  have nd : excL.Nodup := by decide +kernel
  have hsub : ∀ x ∈ pre ++ c :: post, x ∈ excL := fun x hx => by rw [e]; exact hx
  rw [e] at hs nd
  rw [List.nodup_append] at nd
  obtain ⟨n1, n2, n3⟩ := nd
  obtain ⟨m, s1, s2⟩ := ifs_split hs
  cases s2 with
  | cons h t =>
  refine told_skip T O hc I hz hf hσ s1 (fun c' hc' => ⟨hsub c' (List.mem_append_left _ hc'), fun z => n3 c' hc' c List.mem_cons_self z.symm⟩) hH ?_
  refine told_if T O hc I hz hf hc h hσ hH (fun z => absurd rfl z) fun _ => ⟨l, [], hσ1, hl, by decide, fun tt ht => ?_⟩
  have hdt : dd ≠ tt := ne_of_none hH ht
  have hdl : dd ≠ l := ne_of hH hl (by intro z; cases z)
  refine told_skip T O hc I hz hf hσ t (fun c' hc' => ⟨hsub c' (List.mem_append_right _ (List.mem_cons_of_mem _ hc')), fun z => (List.nodup_cons.mp n2).1 (z ▸ hc')⟩) (by rw [upd_ne hdl, upd_ne hdt]; exact hH) ?_
  exact q tt ht
theorem upd_told {H : Hp} {l t : Addr} {o1 o2 o3 : HO} (h : l ≠ t) : upd (upd (upd H l o1) t o2) l o3 = upd (upd H t o2) l o3 := by
  funext b
  by_cases hb : b = l
  · rw [hb, upd_same, upd_same]
  · rw [upd_ne hb, upd_ne hb]
    by_cases hbt : b = t
    · rw [hbt, upd_same, upd_same]
    · rw [upd_ne hbt, upd_ne hbt, upd_ne hb]
/-- the suite -/
theorem told_suite (T : InTold B Z0 sc) (O : ToldOk B) (hc : c ∈ excL) (I : IsC B c C) (hz : Zc (.ref C) (some dd) oe) (hf : ∃ vs, oe.data = .fields vs) {σ : L2.St} {E : Ends} {H : Hp} {sts : List Stmt} {p1 p2 p3 p4 q1 q2 q3 : Pos} {k1 k2 : Nat}
    (hs : ToldIfs excL sts [.Return (some (.Tuple [.Constant (.str "raised") k1 p1, .Name "told" p2] k2 p3)) p4]) (hσ : σ[2]? = some (some (.ref a))) (hH : H dd = some (.xd [(fld c, y)]))
    (hq : ∀ l t p, H l = none → H t = none → t ≠ l → H p = none → p ≠ l → p ≠ t → E.rt (.ref p) (upd (upd (upd H t (.tup [.str c, y])) l (.lst [.ref t])) p (.tup [.str "raised", .ref l]))) :
    SmB (Z0.suite a ((a, oe) :: pn)) (.Assign [.Name "told" q1] (.List [] q2) q3 :: sts) E σ H := by
  have hlen : 2 < σ.length := (List.getElem?_eq_some_iff.mp hσ).1
  have hlc : (Z0.suite a ((a, oe) :: pn)).env.scope.names.lookup ("told" : Str) = some .local := by
    show Z0.env.scope.names.lookup _ = _
    rw [T.eS]; exact T.lc _ (by simp)
  have hN : (Z0.suite a ((a, oe) :: pn)).N.Nodup := by
    show Z0.N.Nodup
    rw [T.eN]; decide +kernel
  refine SmB.of (pss_cons (ps_set (X := Z0.suite a ((a, oe) :: pn)) (i := 1) hN (show Z0.N[1]? = some ("told" : Str) by rw [T.eN]; rfl) (.inl hlc) (pe_lst pa_nil) rfl (.inr hlc)) smB) ?_
  refine ⟨Nat.zero_le _, fun l hl => ?_⟩
  have hdl : dd ≠ l := ne_of_none hH hl
  have h2 : (σ.set 1 (some (V.ref l)))[2]? = some (some (.ref a)) := by rw [List.getElem?_set_ne (by decide)]; exact hσ
  have h1 : (σ.set 1 (some (V.ref l)))[1]? = some (some (.ref l)) := by rw [List.getElem?_set_self (by omega)]
  refine told_all T O hc I hz hf h2 h1 hs (by rw [upd_ne hdl]; exact hH) upd_same fun t ht => ?_
  have htl : t ≠ l := fun z => by rw [z, upd_same] at ht; cases ht
  rw [upd_ne htl] at ht
  refine SmB.of (pss_one (ps_ret (pe_tup (pa_cons pe_str (pa_cons (told3 T) pa_nil rfl) rfl)))) ?_
  refine ⟨.ref l, h1, by show 2 ≤ _; rw [sizeLine_eq]; decide, fun p hp => ?_⟩
  rw [upd_told htl.symm] at hp ⊢
  have hpl : p ≠ l := fun z => by rw [z, upd_same] at hp; cases hp
  rw [upd_ne hpl] at hp
  have hpt : p ≠ t := fun z => by rw [z, upd_same] at hp; cases hp
  rw [upd_ne hpt] at hp
  exact hq l t p hl ht htl hp hpl hpt
end
/-- told's reading -/
def TTz (B : Bd) : (XK → Hp → VK → Prop) → Hp → VK → Prop := fun tl H Q => ∃ (Ech : XK) (Q' : VK), tl Ech H Q' ∧ (∀ v H', Q' v H' → ∀ p, H' p = none → Q (.ref p) (upd H' p (.tup [.str "value", v]))) ∧
  ∀ cls d H', Ech cls d H' → ∃ (c : Str) (C dd : Addr) (y : V), c ∈ excL ∧ B.mg c = some (.ref C) ∧ cls = .ref C ∧ d = some dd ∧ H' dd = some (.xd [(fld c, y)]) ∧
    ∀ l t p, H' l = none → H' t = none → t ≠ l → H' p = none → p ≠ l → p ≠ t → Q (.ref p) (upd (upd (upd H' t (.tup [.str c, y])) l (.lst [.ref t])) p (.tup [.str "raised", .ref l]))
theorem told_givesZ {B : Bd} {X : Cx} {g : Addr} {cdg : Value} {st : Stmt} {q : Str} (on : On B X) (O : ToldOk B) (hb : ToldBody (defBody st)) (hgl : ∀ y ∈ (["isinstance", "CoreError"] : List Str) ++ excL, (defScope st).names.lookup y = some .globalImplicit)
    (hlc : ∀ y ∈ (["call", "told", "e"] : List Str), (defScope st).names.lookup y = some .local) :
    LamX.GivesTo X ["call", "told", "e"] "_law_told" (defScope st) g cdg (defBody st) "call" q (TTz B) := by
  intro f c' s H Q tl act hcode htt
  obtain ⟨Ech, Q', htl, hval, herr⟩ := htt
  obtain ⟨CC, hCC, hexm⟩ := O.core
  generalize hst : defBody st = bg at hb
  obtain ⟨p1, p2, p3, p4, p5, p6, p7, p8, p9, q1, q2, q3, q4, q5, q6, q7, q8, q9, k1, k2, k3, k4, sts, hifs⟩ := hb
  let Z0 : Cx := (cxOf C8.CX0 X.prog X.w X.K X.mg X.base ["call", "told", "e"] "_law_told" (defScope st) g cdg X.A X.stack s H C8.E0).nox
  have T : InTold B Z0 (defScope st) := ⟨⟨on.prog, on.w, on.K, on.mg, on.base⟩, rfl, rfl, hgl, hlc⟩
  let ts : Addr → Value → Option Addr → TS := fun a cls d D σ H => ∀ (oe : Obj) (pn : List (Addr × Obj)), Zc cls d oe → (∃ vs, oe.data = .fields vs) → SmB (Z0.suite a ((a, oe) :: pn)) (.Assign [.Name "told" q1] (.List [] q2) q3 :: sts) D σ H
  let tb : WX → TS := fun W D σ H => ∃ (E1 : XK) (Q1 : VK), (∀ cls d σ' H', E1 cls d H' → W cls d σ' H') ∧ (σ[0]? = some (some (.ref f)) ∧ H c' = some (CodeO c' q) ∧ tl E1 H Q1) ∧ ∀ v H1, Q1 v H1 → D.nx (σ.set 1 (some v)) H1
  have hNn : Z0.N.Nodup := by show (["call", "told", "e"] : List Str).Nodup; decide +kernel
  have htry := ps_try_as (X := Z0) (x := "CoreError") (n := "e") (c := .ref CC) (i := 2) (np := p9) (pos := q5) (pos' := q4) (tb := tb) (ts := ts) (Wout := fun _ _ _ _ => False) (body := [.Assign [.Name "told" p5] (.Call (.Name "call" p6) [] [] p7) p8]) (b₀ := .Assign [.Name "told" q1] (.List [] q2) q3) (suite := sts)
    rfl rfl hNn rfl (hlc "e" (by simp)) ⟨T.g (by simp), by decide, .inl (by show X.mg _ = _; rw [on.mg]; exact hCC)⟩ L2.takes0
    (fun W pn xe tk _ => by
      refine ⟨fun pins s' σ H' D I h' => ?_⟩
      obtain ⟨E1, Q1, hW, h1, h2⟩ := h'
      have hp := act W pn xe E1 p6 p7 tk hW
      have hlt : (Z0.tr pn xe).env.scope.names.lookup ("told" : Str) = some .local := hlc "told" (by simp)
      exact (pss_one (ps_set (X := Z0.tr pn xe) (i := 1) hNn rfl (.inl hlt) smE rfl (.inr hlt))).run pins s' σ H' D I (SmE.mono (SmE.of hp h1) fun v H1 z => h2 v H1 z))
    (fun a oe cls d pn hz hf => ⟨fun pins s' σ H' D I h' => h' oe pn hz hf pins s' I⟩)
  have ht3 : ∀ p, PE Z0 (.Name "told" p) (tVar 1) := fun p => pe_var (X := Z0) rfl (T.v (by simp)) (by decide) (by decide)
  refine ⟨_, pss_cons htry (pss_one (ps_ret (pe_tup (pa_cons pe_str (pa_cons (ht3 _) pa_nil rfl) rfl)))), ?_⟩
  refine ⟨Ech, Q', fun cls d σ' H' hE => ?_, ⟨rfl, hcode, htl⟩, fun v H1 z => ?_⟩
  · obtain ⟨c, C, dd, y, hc, hm, rfl, rfl, hH, hq⟩ := herr cls d H' hE
    obtain ⟨C2, I2⟩ := O.cls c hc
    have e2 : C2 = C := by
      have := I2.m
      rw [hm] at this
      cases this
      rfl
    subst e2
    refine ⟨true, by show PySem.W.exmOne X.K _ _ = _; rw [on.K]; exact hexm c hc C2 hm, fun _ a ha oe pn hz hf pins s' I => ?_, fun z => by cases z⟩
    have hl : (σ'.set 2 (some (V.ref a))).length = 3 := I.len
    have h2 : (σ'.set 2 (some (V.ref a)))[2]? = some (some (.ref a)) := by rw [List.getElem?_set_self (by rw [List.length_set] at hl; omega)]
    exact told_suite T O hc I2 hz hf hifs h2 hH hq pins s' I
  · exact ⟨v, rfl, by show 2 ≤ _; rw [sizeLine_eq]; decide, fun p hp => hval v H1 z p hp⟩
/-- a call's outcome, told -/
def toldM (m : M D) : M D := match m with
  | some (.ok d, S1) => pur (.tup [.str "value", d]) S1
  | some (.err c d, S1) => if excL.contains c then pur (.tup [.str "raised", .lst [.tup [.str c, d]]]) S1 else none
  | none => none
theorem S0.extN {G : Wd} {F : Hp} {A : List Addr} {H H1 : Hp} {S : Store} (h : S0 G F A H S) (e : ExtN H H1) (t : Tabs G.T H1) : S0 G F A H1 S := by
  refine ⟨fun a o q => e a o (h.sub a o q) fun ps z => h.ntb a ps (z ▸ q), h.out, h.nd, h.len, fun k p o q1 q2 => ?_, h.ntb, t, fun a o q => ?_, h.npt⟩
  · obtain ⟨u, u1, u2⟩ := h.obj k p o q1 q2
    refine ⟨u, e p u u1 fun ps z => ?_, u2⟩
    cases o with
    | lst ds =>
      obtain ⟨vs, rfl, _⟩ := u2
      cases z
  · obtain ⟨q1, q2⟩ := h.pin a o q
    exact ⟨e a o q1 fun ps z => h.npt a ps (z ▸ q), q2⟩
def noArgs : Arguments := ⟨[], [], none, [], [], none, []⟩
theorem ev_told {B : Bd} {tl : Bool} {j : Nat} {N : List Str} {fn : Str → Bool} {sc : Scope} {X : Cx} {W : WX} (ct : Ct B tl (j + 2) N fn sc X W) (htl : tl = true) (O : ToldOk B) {G : Wd} (hG : G.toBd = B) (hg : Gl X "_law_told") {ρ : Rho} {S : Store} {body : Expr} {lscope : Scope} {p lpos pos : Pos} {me : Store → M D}
    (L : LamX.lamSB sc lscope = true) (hbody : ∀ (Y : Cx) (W' : WX), Ct B false j N (fun _ => false) lscope Y W' → ∀ S, EvE G Y W' body ρ S (me S)) :
    EvE G X W (.Call (.Name "_law_told" p) [.Lambda noArgs body lscope lpos] [] pos) ρ S (toldM (me S)) := by
  intro r S' h σ H F A h0 hs Q hq
  obtain ⟨c, P, TB, hcode, hmT, hu⟩ := (ct.lam htl).ex
  obtain ⟨g, fd, st, Fg, hmg, hbind, Sg, hbdy, hgl, hlc⟩ := O.fn
  obtain ⟨oc, od, kV, doc, pm, an, cdv, cdt, osl, rfl, lk, hcd⟩ := Fg.ex
  have on := ct.on
  have Ls : LamX.LamS X.env.scope lscope := by rw [ct.eS]; exact LamX.lamS_by L
  let t : XK → TE := fun E σ H Q => ∀ (A : Around) (outer : List Env) (s : Shared) (H0 : Hp) (f c' : Addr), Room j (A.deeper (LamX.lamEnv X lscope s.heap.objs.size f c')) → SmE (LamX.lamCx X A outer s H0 E lscope f c') body σ H Q
  have hpe : PE X (.Call (.Name "_law_told" p) [.Lambda noArgs body lscope lpos] [] pos) (LamX.tLam B.T (TTz B) t) :=
    LamX.pe_lamcall (X := X) (g := g) (a := "call") (Ng := ["call", "told", "e"]) (k := j) hg (by rw [on.mg]; exact hmg) (by rw [on.K]; exact Fg.kp) (by rw [on.K]; exact lk) (by rw [on.K]; exact hcd) (by rw [on.K]; exact hbind) Sg rfl (.inl (hlc _ (by simp)))
      (told_givesZ on O hbdy hgl hlc) TB hcode hmT hu ct.room Ls rfl (fun _ _ _ _ _ => rfl) (fun A outer s H E f c' hr => ⟨fun pins s' σ H' Q I h => h A outer s _ f c' hr pins s' I⟩) (by decide) (by decide) (by decide)
  refine SmE.of hpe ⟨by rw [← hG]; exact h0.tab, fun H1 eN T1 => ?_⟩
  have h1 : S0 G F A H1 S := h0.extN eN (by rw [hG]; exact T1)
  have run : ∀ (E : XK) (Q2 : VK) (r2 : R D) (S2 : Store), me S = some (r2, S2) → (match r2 with
      | .ok d => ∀ v F' A' H', S0 G F' A' H' S2 → Gr F A F' A' → IsD G F' A' d v → Q2 v H'
      | .err c d => ∀ C dd v F' A' H', S0 G F' A' H' S2 → Gr F A F' A' → G.mg c = some (.ref C) → F' dd = some (.xd [(fld c, v)]) → IsD G F' A' d v → E (.ref C) (some dd) H') → t E σ H1 Q2 := by
    intro E Q2 r2 S2 hm hp2 A2 outer2 s2 H02 f2 c2 hr2
    have ctx : Ct B false j N (fun _ => false) lscope (LamX.lamCx X A2 outer2 s2 H02 E lscope f2 c2) (fun cls d _ H => E cls d H) :=
      ⟨⟨on.prog, on.w, on.K, on.mg, on.base⟩, ct.eN, ct.nd, rfl, rfl, Ls.kind, rfl, hr2, takes_of rfl rfl rfl rfl, passes_of rfl, .inl ⟨rfl, rfl, rfl⟩, fun z => by cases z⟩
    refine hbody _ _ ctx S r2 S2 hm σ H1 F A h1 hs Q2 ?_
    cases r2 with
    | ok d => exact hp2
    | err c d => exact fun C dd v F' A' H' σ' _ k0 kg k1 k2 k3 => hp2 C dd v F' A' H' k0 kg k1 k2 k3
  cases hm : me S with
  | none => rw [hm] at h; cases h
  | some pr =>
    obtain ⟨r2, S2⟩ := pr
    rw [hm] at h
    cases r2 with
    | ok d =>
      cases h
      refine ⟨fun _ _ _ => False, fun v H' => ∃ F' A', S0 G F' A' H' S' ∧ Gr F A F' A' ∧ IsD G F' A' d v, run _ _ _ _ hm fun v F' A' H' k0 kg k1 => ⟨F', A', k0, kg, k1⟩, ?_, fun cls d H' z => z.elim⟩
      rintro v H' ⟨F', A', k0, kg, k1⟩ q hq'
      refine tup_end k0 (isDs_cons.mpr ⟨_, _, rfl, isD_str.mpr rfl, isDs_cons.mpr ⟨v, [], rfl, k1, isDs_nil.mpr rfl⟩⟩) hq' fun v F2 A2 H2 a b c => hq v F2 A2 H2 a (kg.trans b) c
    | err c d =>
      simp only [toldM] at h
      split at h
      · rename_i hc
        cases h
        have hc' : c ∈ excL := by simpa using hc
        refine ⟨fun cls d' H' => ∃ C dd v F' A', cls = .ref C ∧ d' = some dd ∧ S0 G F' A' H' S' ∧ Gr F A F' A' ∧ G.mg c = some (.ref C) ∧ F' dd = some (.xd [(fld c, v)]) ∧ IsD G F' A' d v, fun _ _ => False,
          run _ _ _ _ hm fun C dd v F' A' H' k0 kg k1 k2 k3 => ⟨C, dd, v, F', A', rfl, rfl, k0, kg, k1, k2, k3⟩, fun v H' z => z.elim, ?_⟩
        rintro cls d' H' ⟨C, dd, v, F', A', rfl, rfl, k0, kg, k1, k2, k3⟩
        refine ⟨c, C, dd, v, hc', by rw [← hG]; exact k1, rfl, rfl, k0.sub _ _ k2, fun l t p hl ht htl hp hpl hpt => ?_⟩
        obtain ⟨m0, mg⟩ := k0.frz (o := .tup [.str c, v]) ht (by intro ps z; cases z)
        have d1 : IsD G (upd F' t (.tup [.str c, v])) A' (.tup [.str c, d]) (.ref t) := isD_tup.mpr ⟨t, _, rfl, SqT.of upd_same, isDs_cons.mpr ⟨_, _, rfl, isD_str.mpr rfl, isDs_cons.mpr ⟨v, [], rfl, k3.gr mg, isDs_nil.mpr rfl⟩⟩⟩
        obtain ⟨n0, ng⟩ := m0.frz (p := l) (o := .lst [.ref t]) (by rw [upd_ne htl.symm]; exact hl) (by intro ps z; cases z)
        have d2 : IsD G (upd (upd F' t (.tup [.str c, v])) l (.lst [.ref t])) A' (.lst [.tup [.str c, d]]) (.ref l) := isD_lst.mpr ⟨l, _, rfl, upd_same, isDs_cons.mpr ⟨_, [], rfl, d1.gr ng, isDs_nil.mpr rfl⟩⟩
        refine tup_end n0 (isDs_cons.mpr ⟨_, _, rfl, isD_str.mpr rfl, isDs_cons.mpr ⟨_, [], rfl, d2, isDs_nil.mpr rfl⟩⟩) (by rw [upd_ne hpl, upd_ne hpt]; exact hp) fun v F2 A2 H2 a b c => hq v F2 A2 H2 a (((kg.trans mg).trans ng).trans b) c
      · cases h
end Z


set_option Elab.async false
set_option linter.all false
set_option maxRecDepth 100000
set_option maxHeartbeats 4000000
namespace Z
open PySem PySem.Spec PyProof.Rows L2
open LamX (Tabs TabS ExtN CodeO)

/-! ## the program's text at the data level -/
/-- built-in functions -/
inductive Bi where
  | abs | len | tuple | list (m : Bool) | sum | all | any | int | str | max | min
def Bi.name : Bi → Str
  | .abs => "abs" | .len => "len" | .tuple => "tuple" | .list _ => "list" | .sum => "sum" | .all => "all" | .any => "any" | .int => "int" | .str => "str" | .max => "max" | .min => "min"
def Bi.sem : Bi → List D → Store → Option (D × Store)
  | .abs => absD | .len => lenD | .tuple => tupleD | .list m => listD m | .sum => sumD | .all => allD | .any => anyD | .int => intD | .str => strD | .max => maxD | .min => minD
/-- methods of one argument -/
inductive Me where
  | append | split (m : Bool) | join
def Me.name : Me → Str
  | .append => "append" | .split _ => "split" | .join => "join"
def Me.ck : Me → D → Store → Bool
  | .append => isPtrD | .split _ => isStrD | .join => isStrD
def Me.sem : Me → D → List D → Store → Option (D × Store)
  | .append => appendM | .split m => splitM m | .join => joinM
mutual
inductive IE where
  | var (i : Nat) | int (i : Int) | bl (b : Bool) | non | str (x : Str) | glob (x : Str) (d : D)
  | tup (es : IEs) | lst (m : Bool) (es : IEs)
  | bin (m : Bool) (op : Operator) (a b : IE)
  | cmp (op : CmpOp) (a b : IE)
  | chn (op : CmpOp) (op' : CmpOp) (a b c : IE)
  | and (es : IEs) | or (es : IEs) | not (a : IE) | neg (a : IE) | ife (c a b : IE)
  | ix (a b : IE) | sl (m : Bool) (a : IE) (lo hi : IO) | rev (m : Bool) (a : IE)
  | call (x : Str) (n : Nat) (f : Fn) (es : IEs)
  | bi (b : Bi) (es : IEs) | isi (e : IE) (ts : List String) | meth (q : Me) (o e : IE)
  | lc (m : Bool) (own : List (Str × Nat)) (t : Tg) (it : II) (cs : IO) (elt : IE)
  | fv (e : IE) | fmt (es : IEs) | told (e : IE)
inductive IEs where
  | nil | cons (e : IE) (es : IEs)
inductive IO where
  | no | yes (e : IE)
inductive II where
  | seq (e : IE) | rng1 (e : IE) | rng2 (a b : IE) | enum (e : IE) | zip (a b : IE)
end
def IEs.len : IEs → Nat
  | .nil => 0
  | .cons _ es => es.len + 1
def partM (m : M D) : M (Option Int) := bnd m fun x S1 => match x with
  | .int i => pur (some i) S1
  | _ => none
mutual
/-- what an expression comes to -/
def runE (ρ : Rho) : IE → Store → M D
  | .var i, S => varD i ρ S
  | .int i, S => pur (.int i) S
  | .bl b, S => pur (.bl b) S
  | .non, S => pur .non S
  | .str x, S => pur (.str x) S
  | .glob _ d, S => pur d S
  | .tup es, S => bnd (runEs ρ es S) tupD
  | .lst m es, S => bnd (runEs ρ es S) (if m then ptrD else lstD)
  | .bin m op a b, S => bnd (runE ρ a S) fun x S1 => bnd (runE ρ b S1) fun y S2 => lft (binD m op x y S2)
  | .cmp op a b, S => bnd (runE ρ a S) fun x S1 => bnd (runE ρ b S1) fun y S2 => lft (cmpD op x y S2)
  | .chn op op' a b c, S => bnd (runE ρ a S) fun x S1 => bnd (runE ρ b S1) fun y S2 => bnd (lft ((cmpO op x y S2).map fun k => (k, S2))) fun k S3 => if k = true then bnd (runE ρ c S3) fun z S4 => lft ((cmpO op' y z S4).map fun k => (.bl k, S4)) else pur (.bl false) S3
  | .and es, S => andE ρ es S
  | .or es, S => orE ρ es S
  | .not a, S => bnd (runE ρ a S) notD
  | .neg a, S => bnd (runE ρ a S) negD
  | .ife c a b, S => bnd (runT ρ c S) fun x S1 => if x = true then runE ρ a S1 else runE ρ b S1
  | .ix a b, S => bnd (runE ρ a S) fun x S1 => bnd (runE ρ b S1) fun y S2 => ixD x y S2
  | .sl m a lo hi, S => bnd (runE ρ a S) fun x S1 => bnd (runO ρ lo S1) fun l S2 => bnd (runO ρ hi S2) fun u S3 => lft (slD m x l u S3)
  | .rev m a, S => bnd (runE ρ a S) fun x S1 => lft (revD m x S1)
  | .call _ n f es, S => bnd (runEs ρ es S) fun ds S1 => if ds.length = n then f ds S1 else none
  | .bi b es, S => bnd (runEs ρ es S) fun ds S1 => lft (b.sem ds S1)
  | .isi e ts, S => bnd (runE ρ e S) fun x S1 => lft (isiD ts x S1)
  | .meth q o e, S => bnd (runE ρ o S) fun x S1 => if q.ck x S1 = true then bnd (runE ρ e S1) fun y S2 => lft (q.sem x [y] S2) else none
  | .lc m own t it cs elt, S => bnd (runI ρ it S) (lcM m (tgM t) (fun ρ' S1 => runC ρ' cs S1) (fun ρ' S1 => runE ρ' elt S1) (wipeR ρ (own.map (·.2))))
  | .fv e, S => bnd (runE ρ e S) fun x S1 => lft (fmtD x S1)
  | .fmt es, S => bnd (runJ ρ es Str.empty S) fun z S1 => pur (.str z) S1
  | .told e, S => toldM (runE ρ e S)
def runEs (ρ : Rho) : IEs → Store → M (List D)
  | .nil, S => pur [] S
  | .cons e es, S => bnd (runE ρ e S) fun x S1 => bnd (runEs ρ es S1) fun xs S2 => pur (x :: xs) S2
def runO (ρ : Rho) : IO → Store → M (Option Int)
  | .no, S => pur none S
  | .yes e, S => partM (runE ρ e S)
def runC (ρ : Rho) : IO → Store → M Bool
  | .no, S => pur true S
  | .yes e, S => runT ρ e S
/-- .. as a test -/
def runT (ρ : Rho) : IE → Store → M Bool
  | .cmp op a b, S => bnd (runE ρ a S) fun x S1 => bnd (runE ρ b S1) fun y S2 => lft ((cmpO op x y S2).map fun k => (k, S2))
  | .chn op op' a b c, S => bnd (runE ρ a S) fun x S1 => bnd (runE ρ b S1) fun y S2 => bnd (lft ((cmpO op x y S2).map fun k => (k, S2))) fun k S3 => if k = true then bnd (runE ρ c S3) fun z S4 => lft ((cmpO op' y z S4).map fun k => (k, S4)) else pur false S3
  | .not a, S => notM (runT ρ a S)
  | .and es, S => andT ρ es S
  | .or es, S => orT ρ es S
  | .var i, S => bnd (varD i ρ S) truM
  | .bl b, S => pur b S
  | .call _ n f es, S => bnd (bnd (runEs ρ es S) fun ds S1 => if ds.length = n then f ds S1 else none) truM
  | .bi b es, S => bnd (bnd (runEs ρ es S) fun ds S1 => lft (b.sem ds S1)) truM
  | .isi e ts, S => bnd (bnd (runE ρ e S) fun x S1 => lft (isiD ts x S1)) truM
  | .ix a b, S => bnd (bnd (runE ρ a S) fun x S1 => bnd (runE ρ b S1) fun y S2 => ixD x y S2) truM
  | .bin m op a b, S => bnd (bnd (runE ρ a S) fun x S1 => bnd (runE ρ b S1) fun y S2 => lft (binD m op x y S2)) truM
  | _, _ => none
def andE (ρ : Rho) : IEs → Store → M D
  | .nil, _ => none
  | .cons e .nil, S => runE ρ e S
  | .cons e (.cons f es), S => bnd (runE ρ e S) fun x S1 => asBl x fun k => if k = true then andE ρ (.cons f es) S1 else pur (.bl false) S1
def orE (ρ : Rho) : IEs → Store → M D
  | .nil, _ => none
  | .cons e .nil, S => runE ρ e S
  | .cons e (.cons f es), S => bnd (runE ρ e S) fun x S1 => asBl x fun k => if k = true then pur (.bl true) S1 else orE ρ (.cons f es) S1
def andT (ρ : Rho) : IEs → Store → M Bool
  | .nil, _ => none
  | .cons e .nil, S => runT ρ e S
  | .cons e (.cons f es), S => bnd (runT ρ e S) fun x S1 => if x = true then andT ρ (.cons f es) S1 else pur false S1
def orT (ρ : Rho) : IEs → Store → M Bool
  | .nil, _ => none
  | .cons e .nil, S => runT ρ e S
  | .cons e (.cons f es), S => bnd (runT ρ e S) fun x S1 => if x = true then pur true S1 else orT ρ (.cons f es) S1
def runJ (ρ : Rho) : IEs → Str → Store → M Str
  | .nil, acc, S => pur acc S
  | .cons e es, acc, S => bnd (runE ρ e S) (glue acc fun acc' S1 => runJ ρ es acc' S1)
def runI (ρ : Rho) : II → Store → M Wk
  | .seq e, S => bnd (runE ρ e S) (wkM seqW)
  | .rng1 e, S => bnd (bnd (runE ρ e S) fun x S1 => pur [x] S1) rng1
  | .rng2 a b, S => bnd (bnd (runE ρ a S) fun x S1 => bnd (bnd (runE ρ b S1) fun y S2 => pur [y] S2) fun ys S2 => pur (x :: ys) S2) rng2
  | .enum e, S => bnd (runE ρ e S) (wkM fun x S1 => (lstW x S1).map fun w => ⟨enumD 0 w.items, w.stay⟩)
  | .zip a b, S => bnd (runE ρ a S) fun x S1 => bnd (runE ρ b S1) fun y S2 => match lstW x S2, lstW y S2 with
      | some w1, some w2 => pur ⟨zipD w1.items w2.items, fun S => w1.stay S && w2.stay S⟩ S2
      | _, _ => none
end
end Z
namespace Z
open PySem PySem.Spec PyProof.Rows L2
mutual
inductive IS where
  | pass | brk | cnt | expr (e : IE) | ret (e : IE) | retN
  | asg (t : Tg) (e : IE) | sub (e o i : IE)
  | ife (c : IE) (a b : ISs) | loop (t : Tg) (it : II) (body : ISs) | whl (n : Nat) (c : IE) (body : ISs)
  | rse (c : Str) (e : IE)
inductive ISs where
  | nil | cons (s : IS) (r : ISs)
end
/-- the error that is raised -/
def rseM (c : Str) (d : D) (S : Store) : MS := some (.err c d, S)
mutual
def runS (ρ : Rho) : IS → Store → MS
  | .pass, S => pur (.nx ρ) S
  | .brk, S => pur (.bk ρ) S
  | .cnt, S => pur (.ct ρ) S
  | .expr e, S => bnd (runE ρ e S) fun _ S1 => pur (.nx ρ) S1
  | .ret e, S => bnd (runE ρ e S) fun d S1 => pur (.rt d) S1
  | .retN, S => pur (.rt .non) S
  | .asg t e, S => bnd (runE ρ e S) (setT t ρ)
  | .sub e o i, S => bnd (runE ρ e S) fun v S1 => bnd (runE ρ o S1) fun x S2 => bnd (runE ρ i S2) fun y S3 => setI ρ x y v S3
  | .ife c a b, S => bnd (runT ρ c S) fun x S1 => if x = true then runB a ρ S1 else runB b ρ S1
  | .loop t it body, S => bnd (runI ρ it S) fun w S1 => forF w.stay (tgM t) (fun ρ' S' => runB body ρ' S') w.items ρ S1
  | .whl n c body, S => whileF (fun ρ' S' => runT ρ' c S') (fun ρ' S' => runB body ρ' S') n ρ S
  | .rse c e, S => bnd (runE ρ e S) (rseM c)
def runB : ISs → Rho → Store → MS
  | .nil, ρ, S => pur (.nx ρ) S
  | .cons s r, ρ, S => seqS (runS ρ s S) fun ρ' S' => runB r ρ' S'
end

/-! ### the match with the text -/
def visB (sc : Scope) (x : Str) : Bool := decide (sc.names.lookup x = some .local) || (decide (sc.names.lookup x = some .cell) || decide (sc.names.lookup x = some .free))
def glB (sc : Scope) (x : Str) : Bool := decide (sc.names.lookup x = some .globalImplicit) && (!(x == ("__debug__" : Str)) && !decide (x = "__name__"))
def okN (x : Str) : Bool := !(x == ("__debug__" : Str)) && !(x == ("__classdict__" : Str))
def tyB (sc : Scope) (T : String) : Expr → Bool
  | .Name x _ => glB sc x && decide (x = Str.ofString T)
  | _ => false
def tysB (sc : Scope) : List String → List Expr → Bool
  | [], [] => true
  | T :: ts, e :: es => tyB sc T e && tysB sc ts es
  | _, _ => false
def isTup : Expr → Bool
  | .Tuple .. => true
  | _ => false
def argsB : Arguments → Bool
  | ⟨[], [], none, [], [], none, []⟩ => true
  | _ => false
theorem argsB_ok {a : Arguments} (h : argsB a = true) : a = noArgs := by
  unfold argsB at h
  split at h
  · rfl
  · cases h
section
variable (N : List Str)
mutual
def mE (fn : Str → Bool) (sc : Scope) : IE → Expr → Bool
  | .var i, .Name x _ => decide (N[i]? = some x) && (visB sc x && okN x)
  | .int i, .Constant (.int j) _ _ => decide (i = j)
  | .bl i, .Constant (.bool j) _ _ => decide (i = j)
  | .non, .Constant .none _ _ => true
  | .str i, .Constant (.str j) _ _ => decide (i = j)
  | .glob y _, .Name x _ => decide (x = y) && glB sc x
  | .tup es, .Tuple l _ _ => l.all unStar && mEs fn sc es l
  | .lst _ es, .List l _ => l.all unStar && mEs fn sc es l
  | .bin _ op a b, .BinOp e1 op' e2 _ => decide (op = op') && (mE fn sc a e1 && mE fn sc b e2)
  | .cmp op a b, .Compare e1 [op'] [e2] _ => decide (op = op') && (!behindInMarks op' e2 && (mE fn sc a e1 && mE fn sc b e2))
  | .chn o1 o2 a b c, .Compare e1 [p1, p2] [e2, e3] _ => decide (o1 = p1) && (decide (o2 = p2) && (!lastMarks [p1, p2] [e2, e3] && (mE fn sc a e1 && (mE fn sc b e2 && mE fn sc c e3))))
  | .and es, .BoolOp .And l _ => !l.isEmpty && mEs fn sc es l
  | .or es, .BoolOp .Or l _ => !l.isEmpty && mEs fn sc es l
  | .not a, .UnaryOp .Not e _ => mE fn sc a e
  | .neg a, .UnaryOp .USub e _ => mE fn sc a e
  | .ife c a b, .IfExp e1 e2 e3 _ => mE fn sc c e1 && (mE fn sc a e2 && mE fn sc b e3)
  | .ix a b, .Subscript e1 e2 _ => notSlice e2 && (mE fn sc a e1 && mE fn sc b e2)
  | .sl _ a lo hi, .Subscript e1 (.Slice l h none _) _ => mE fn sc a e1 && (mO fn sc lo l && mO fn sc hi h)
  | .rev _ a, .Subscript e1 (.Slice none none (some (.UnaryOp .USub (.Constant (.int 1) _ _) _)) _) _ => mE fn sc a e1
  | .call x n _ es, .Call (.Name y _) l [] _ => decide (x = y) && (glB sc y && (l.all unStar && (decide (es.len = n) && mEs fn sc es l)))
  | .bi b es, .Call (.Name y _) l [] _ => decide (b.name = y) && (glB sc y && (!l.isEmpty && (l.all unStar && mEs fn sc es l)))
  | .isi e ts, .Call (.Name y _) [e1, c] [] _ => decide (y = "isinstance") && (glB sc y && (unStar e1 && (mE fn sc e e1 && (ts.all (fun t => decide (t ∈ asTys)) && (match c with
    | .Tuple l _ _ => tysB sc ts l && fits ts.length
    | c => decide (ts.length = 1) && tysB sc ts [c])))))
  | .meth q o e, .Call (.Attribute o' name apos) [e'] [] pos => decide (q.name = name) && (unCall o' && (unStar e' && ((apos.endLine == pos.line) && (mE fn sc o o' && mE fn sc e e'))))
  | .lc _ own t it cs elt, .ListComp elt' [⟨tg, iter, ifs, a⟩] scope _ => decide (a = 0) && (blkC N sc scope own && (mtT N (fun x => scope.names.lookup x == some .cell) (relS scope sc) t tg && (t.slots.all (fun i => decide (i ∈ own.map (·.2))) && (unSet iter && (mI fn sc tg it iter &&
      (mCs (fun x => scope.names.lookup x == some .cell) (relS scope sc) cs ifs && mE (fun x => scope.names.lookup x == some .cell) (relS scope sc) elt elt'))))))
  | .fv e, .FormattedValue e' k none _ => decide (k = -1) && mE fn sc e e'
  | .fmt es, .JoinedStr (a :: b :: l) _ => mEs fn sc es (a :: b :: l)
  | .told e, .Call (.Name y _) [.Lambda a body lscope _] [] _ => decide (y = "_law_told") && (glB sc y && (argsB a && (LamX.lamSB sc lscope && mE (fun _ => false) lscope e body)))
  | _, _ => false
def mEs (fn : Str → Bool) (sc : Scope) : IEs → List Expr → Bool
  | .nil, [] => true
  | .cons e es, x :: xs => mE fn sc e x && mEs fn sc es xs
  | _, _ => false
def mO (fn : Str → Bool) (sc : Scope) : IO → Option Expr → Bool
  | .no, none => true
  | .yes e, some x => mE fn sc e x
  | _, _ => false
def mCs (fn : Str → Bool) (sc : Scope) : IO → List Expr → Bool
  | .no, [] => true
  | .yes e, [x] => mE fn sc e x
  | _, _ => false
def mI (fn : Str → Bool) (sc : Scope) (tg : Expr) : II → Expr → Bool
  | .seq e, x => mE fn sc e x
  | .rng1 e, .Call (.Name y _) [x] [] _ => decide (y = "range") && (glB sc y && (unStar x && mE fn sc e x))
  | .rng2 a b, .Call (.Name y _) [x1, x2] [] _ => decide (y = "range") && (glB sc y && (unStar x1 && (unStar x2 && (mE fn sc a x1 && mE fn sc b x2))))
  | .enum e, .Call (.Name y _) [x] [] _ => isTup tg && (decide (y = "enumerate") && (glB sc y && (unStar x && mE fn sc e x)))
  | .zip a b, .Call (.Name y _) [x1, x2] [] _ => isTup tg && (decide (y = "zip") && (glB sc y && (unStar x1 && (unStar x2 && (mE fn sc a x1 && mE fn sc b x2)))))
  | _, _ => false
end
/-- a comprehension that is stored at once -/
def swB (sc : Scope) (e t : Expr) (l : Nat) : Bool := match e, t with
  | .ListComp _ _ scope p, .Name y py => decide (sc.names.lookup y = some .local) && (py.line == p.line && !(scope.names.any fun (n, k) => n == y && (k == .local || k == .cell)))
  | _, _ => false
/-- an assignment's form -/
def asB (sc : Scope) (t : Tg) (tg e : Expr) (l : Nat) : Bool := unStar tg && (unPair tg e && ((match e with
  | .SetComp .. => false
  | .DictComp .. => false
  | _ => true) && (!swB sc e tg l || (match t, tg with
    | .nm i, .Name y _ => decide (N[i]? = some y)
    | _, _ => false))))
mutual
def mS (fn : Str → Bool) (sc : Scope) : IS → Stmt → Bool
  | .pass, .Pass _ => true
  | .brk, .Break _ => true
  | .cnt, .Continue _ => true
  | .expr e, .Expr x _ => unComp x && mE N fn sc e x
  | .ret e, .Return (some x) _ => mE N fn sc e x
  | .retN, .Return none _ => true
  | .asg t e, .Assign [tg] x p => asB N sc t tg x p.line && (mtT N fn sc t tg && mE N fn sc e x)
  | .sub e o i, .Assign [.Subscript o' i' _] x _ => notSlice i' && (unComp x && (mE N fn sc e x && (mE N fn sc o o' && mE N fn sc i i')))
  | .ife c a b, .If x p q _ => mE N fn sc c x && (mB fn sc a p && mB fn sc b q)
  | .loop t it body, .For tg iter p [] _ => mtT N fn sc t tg && (unSet iter && (mI N fn sc tg it iter && mB fn sc body p))
  | .whl _ c body, .While x p [] _ => mE N fn sc c x && mB fn sc body p
  | .rse c e, .Raise (some (.Call (.Name y _) [x] [] _)) none _ => decide (c = y) && (glB sc y && (unStar x && mE N fn sc e x))
  | _, _ => false
def mB (fn : Str → Bool) (sc : Scope) : ISs → List Stmt → Bool
  | .nil, [] => true
  | .cons s r, x :: xs => mS fn sc s x && mB fn sc r xs
  | _, _ => false
end
end
end Z


set_option Elab.async false
set_option linter.all false
set_option maxRecDepth 100000
set_option maxHeartbeats 4000000
namespace Z
open PySem PySem.Spec PyProof.Rows L2
open LamX (Tabs TabS ExtN CodeO)

/-! ## what is read is what runs -/
def freeL : List Str := ["abs", "len", "tuple", "list", "sum", "all", "any", "int", "str", "max", "min", "isinstance", "range", "enumerate", "zip", "bool"]
def FreeOk (B : Bd) : Prop := ∀ x ∈ freeL, B.mg x = none
/-- c(..) may be raised -/
def RaiseOk (B : Bd) (k : Nat) (c : Str) : Prop := ∀ (X : Cx) (W : WX) (N : List Str) (fn : Str → Bool) (sc : Scope) (tl : Bool), Ct B tl k N fn sc X W → ∀ (G : Wd), G.toBd = B → ∀ (ρ : Rho) (S : Store) (e : Expr) (m : M D) (p pos pos' : Pos),
  EvE G X W e ρ S m → Gl X c → unStar e = true → EvS G X W (.Raise (some (.Call (.Name c p) [e] [] pos)) none pos') ρ S (bnd m (rseM c))
section
variable (B : Bd)
mutual
def okE : Bool → Nat → IE → Prop
  | _, _, .glob x d => ∃ u v, B.mg x = some u ∧ RelV v u ∧ ∀ F A, IsD B F A d v
  | t, k, .tup es => okEs t k es
  | t, k, .lst _ es => okEs t k es
  | t, k, .bin _ _ a b => okE t k a ∧ okE t k b
  | t, k, .cmp _ a b => okE t k a ∧ okE t k b
  | t, k, .chn _ _ a b c => okE t k a ∧ okE t k b ∧ okE t k c
  | t, k, .and es => okEs t k es
  | t, k, .or es => okEs t k es
  | t, k, .not a => okE t k a
  | t, k, .neg a => okE t k a
  | t, k, .ife c a b => okE t k c ∧ okE t k a ∧ okE t k b
  | t, k, .ix a b => okE t k a ∧ okE t k b
  | t, k, .sl _ a lo hi => okE t k a ∧ okIO t k lo ∧ okIO t k hi
  | t, k, .rev _ a => okE t k a
  | t, k, .call x n f es => FnLink B k x n f ∧ okEs t k es
  | t, k, .bi _ es => okEs t k es
  | t, k, .isi e _ => okE t k e
  | t, k, .meth _ o e => okE t k o ∧ okE t k e
  | t, k, .lc _ _ _ it cs elt => okI t k it ∧ okIO t k cs ∧ okE t k elt
  | t, k, .fv e => okE t k e
  | t, k, .fmt es => okEs t k es
  | t, k, .told e => t = true ∧ ToldOk B ∧ 2 ≤ k ∧ okE false (k - 2) e
  | _, _, _ => True
def okEs : Bool → Nat → IEs → Prop
  | _, _, .nil => True
  | t, k, .cons e es => okE t k e ∧ okEs t k es
def okIO : Bool → Nat → IO → Prop
  | _, _, .no => True
  | t, k, .yes e => okE t k e
def okI : Bool → Nat → II → Prop
  | t, k, .seq e => okE t k e
  | t, k, .rng1 e => okE t k e
  | t, k, .rng2 a b => okE t k a ∧ okE t k b
  | t, k, .enum e => okE t k e
  | t, k, .zip a b => okE t k a ∧ okE t k b
end
mutual
def okS (t : Bool) (k : Nat) : IS → Prop
  | .expr e => okE B t k e
  | .ret e => okE B t k e
  | .asg _ e => okE B t k e
  | .sub e o i => okE B t k e ∧ okE B t k o ∧ okE B t k i
  | .ife c a b => okE B t k c ∧ okB t k a ∧ okB t k b
  | .loop _ it body => okI B t k it ∧ okB t k body
  | .whl _ c body => okE B t k c ∧ okB t k body
  | .rse c e => RaiseOk B k c ∧ okE B t k e
  | _ => True
def okB (t : Bool) (k : Nat) : ISs → Prop
  | .nil => True
  | .cons s r => okS t k s ∧ okB t k r
end
end
section
variable {B : Bd} {tl : Bool} {k : Nat} {N : List Str} {fn : Str → Bool} {sc : Scope} {X : Cx} {W : WX}
theorem Ct.vis (ct : Ct B tl k N fn sc X W) {x : Str} (h : visB sc x = true) : Vis X.env.scope x := by
  rw [ct.eS]
  simp only [visB, Bool.or_eq_true, decide_eq_true_eq] at h
  exact h
theorem Ct.gl (ct : Ct B tl k N fn sc X W) {x : Str} (h : glB sc x = true) : Gl X x ∧ x ≠ "__name__" ∧ (x == ("__debug__" : Str)) = false := by
  simp only [glB, Bool.and_eq_true, Bool.not_eq_true', decide_eq_true_eq, decide_eq_false_iff_not] at h
  refine ⟨?_, h.2.2, h.2.1⟩
  show X.env.scope.names.lookup x = _
  rw [ct.eS]
  exact h.1
theorem Ct.blk (ct : Ct B tl k N fn sc X W) {scope : Scope} {own : List (Str × Nat)} (ok : blkC N sc scope own = true) : Blks X scope fun Y => Ct B tl k N (fun x => scope.names.lookup x == some .cell) (relS scope sc) Y W0 := by
  intro s H C cl fp
  refine ⟨⟨ct.on.prog, ct.on.w, ct.on.K, ct.on.mg, ct.on.base⟩, ct.eN, ct.nd, rfl, ?_, (blkOk_by ok).kind, ct.calm, ct.room, L2.takes0, fun u s h => h.elim, .inr rfl, fun z => by
    obtain ⟨c, P, h1, h2, h3, h4⟩ := (ct.lam z).ex
    exact ⟨⟨c, P, h1, h2, h3, h4⟩⟩⟩
  rw [← ct.eS]
  rfl
end
/-- the built-in functions by their rule -/
theorem ev_bi {B : Bd} {tl : Bool} {k : Nat} {N : List Str} {fn : Str → Bool} {sc : Scope} {X : Cx} {G : Wd} {W : WX} {ρ : Rho} {S : Store} {e : Expr} {es : List Expr} {p pos : Pos} {m : M (List D)} (fr : FreeOk B) (ct : Ct B tl k N fn sc X W) (hG : G.toBd = B) (b : Bi) (hg : glB sc b.name = true) (ha : EvA G X W (e :: es) ρ S m) (hs : (e :: es).all unStar = true) :
    EvE G X W (.Call (.Name b.name p) (e :: es) [] pos) ρ S (bnd m fun ds S1 => lft (b.sem ds S1)) := by
  obtain ⟨g1, g2, g3⟩ := ct.gl hg
  have hK : X.K = G.K := by rw [ct.on.K, ← hG]
  have hm : X.mg b.name = none := by
    rw [ct.on.mg]
    exact fr _ (by cases b <;> simp [freeL, Bi.name])
  cases b with
  | abs => exact ev_callB (id := "abs") ca_abs g1 hm (by kernel_rfl) ha hs g2 g3
  | len => exact ev_callB (id := "len") (ca_len hK) g1 hm (by kernel_rfl) ha hs g2 g3
  | tuple => exact ev_callTy (T := "tuple") (ca_tuple hK) g1 hm (by kernel_rfl) ha hs g2 g3
  | list m => exact ev_callTy (T := "list") (ca_list hK) g1 hm (by kernel_rfl) ha hs g2 g3
  | sum => exact ev_callB (id := "sum") (ca_sum ct.calm) g1 hm (by kernel_rfl) ha hs g2 g3
  | all => exact ev_callB (id := "all") (ca_all ct.calm) g1 hm (by kernel_rfl) ha hs g2 g3
  | any => exact ev_callB (id := "any") (ca_any ct.calm) g1 hm (by kernel_rfl) ha hs g2 g3
  | int => exact ev_callTy (T := "int") ca_int g1 hm (by kernel_rfl) ha hs g2 g3
  | str => exact ev_callTy (T := "str") ca_str g1 hm (by kernel_rfl) ha hs g2 g3
  | max => exact ev_callB (id := "max") (ca_max ct.calm) g1 hm (by kernel_rfl) ha hs g2 g3
  | min => exact ev_callB (id := "min") (ca_min ct.calm) g1 hm (by kernel_rfl) ha hs g2 g3
theorem ev_me {G : Wd} {X : Cx} {W : WX} {ρ : Rho} {S : Store} {o e : Expr} {apos pos : Pos} {mo : M D} {ma : Store → M D} (hK : X.K = G.K) (q : Me) (ho : EvE G X W o ρ S mo) (ha : ∀ S1, EvE G X W e ρ S1 (ma S1)) (hu : unCall o = true) (hs : unStar e = true) (hl : (apos.endLine == pos.line) = true) :
    EvE G X W (.Call (.Attribute o q.name apos) [e] [] pos) ρ S (bnd mo fun x S1 => if q.ck x S1 = true then bnd (ma S1) fun y S2 => lft (q.sem x [y] S2) else none) := by
  cases q with
  | append => exact ev_meth PySem.F.plainAttrs_list PySem.F.slot_list_append PySem.F.type_list_append me_append (fun x S1 h F A H v h0 hx => isPtr_ty h h0 hx) ho ha hu hs hl
  | split m => exact ev_meth PySem.F.plainAttrs_str PySem.F.slot_str_split PySem.F.type_str_split me_split (fun x S1 h F A H v h0 hx => isStr_ty h h0 hx) ho ha hu hs hl
  | join => exact ev_meth PySem.F.plainAttrs_str PySem.F.slot_str_join PySem.F.type_str_join (me_join hK) (fun x S1 h F A H v h0 hx => isStr_ty h h0 hx) ho ha hu hs hl
/-- types' names are free -/
theorem ty_of {B : Bd} {tl : Bool} {k : Nat} {N : List Str} {fn : Str → Bool} {sc : Scope} {X : Cx} {W : WX} (fr : FreeOk B) (ct : Ct B tl k N fn sc X W) {T : String} {e : Expr} (hT : T ∈ asTys) (h : tyB sc T e = true) : tyE X T e := by
  cases e with
  | Name x p =>
    simp only [tyB, Bool.and_eq_true, decide_eq_true_eq] at h
    obtain ⟨h1, h2⟩ := h
    obtain ⟨g1, g2, g3⟩ := ct.gl h1
    subst h2
    have hm : X.mg (Str.ofString T) = none := by
      rw [ct.on.mg]
      refine fr _ ?_
      simp only [asTys, List.mem_cons, List.not_mem_nil, or_false] at hT
      rcases hT with rfl | rfl | rfl | rfl | rfl <;> decide +kernel
    refine ⟨g1, hm, ?_, g2, g3⟩
    simp only [asTys, List.mem_cons, List.not_mem_nil, or_false] at hT
    rcases hT with rfl | rfl | rfl | rfl | rfl <;> kernel_rfl
  | _ => simp [tyB] at h
theorem tys_of {B : Bd} {tl : Bool} {k : Nat} {N : List Str} {fn : Str → Bool} {sc : Scope} {X : Cx} {W : WX} (fr : FreeOk B) (ct : Ct B tl k N fn sc X W) : ∀ {ts : List String} {es : List Expr}, (∀ t ∈ ts, t ∈ asTys) → tysB sc ts es = true → TyEs X es ts
  | [], [], _, _ => .nil
  | T :: ts, e :: es, hT, h => by
    simp only [tysB, Bool.and_eq_true] at h
    exact .cons (ty_of fr ct (hT T List.mem_cons_self) h.1) (tys_of fr ct (fun t ht => hT t (List.mem_cons_of_mem _ ht)) h.2)
  | [], _ :: _, _, h => by simp [tysB] at h
  | _ :: _, [], _, h => by simp [tysB] at h
theorem et_bl {G : Wd} {X : Cx} {W : WX} {ρ : Rho} {S : Store} {b : Bool} {j : Nat} {pos : Pos} (hK : X.K = G.K) : EvT G X W (.Constant (.bool b) j pos) ρ S (pur b S) := by
  have h := et_val (W := W) (ρ := ρ) (S := S) hK (e := .Constant (.bool b) j pos) rfl ev_bl
  exact h

section
variable {B : Bd} (fr : FreeOk B) (N : List Str)
include fr
mutual
theorem sE : ∀ (ie : IE) (tl : Bool) (k : Nat) (fn : Str → Bool) (sc : Scope) (X : Cx) (W : WX) (G : Wd) (e : Expr) (ρ : Rho) (S : Store), Ct B tl k N fn sc X W → G.toBd = B → okE B tl k ie → mE N fn sc ie e = true → EvE G X W e ρ S (runE ρ ie S)
  | ie, tl, k, fn, sc, X, W, G, e, ρ, S, ct, hG, ok, h => by
    have hK : X.K = G.K := by rw [ct.on.K, ← hG]
    have hu : X.A.units + 64 < cLine := ct.room.units
    unfold mE at h
    split at h
    case h_1 i x p =>
      simp only [Bool.and_eq_true, decide_eq_true_eq, okN, Bool.not_eq_true'] at h
      simp only [runE]
      exact ev_var (by rw [ct.eN]; exact h.1) (ct.vis h.2.1) h.2.2.1 h.2.2.2
    case h_2 i j a p =>
      simp only [decide_eq_true_eq] at h
      subst h
      simp only [runE]
      exact ev_int
    case h_3 i j a p =>
      simp only [decide_eq_true_eq] at h
      subst h
      simp only [runE]
      exact ev_bl
    case h_4 a p =>
      simp only [runE]
      exact ev_non
    case h_5 i j a p =>
      simp only [decide_eq_true_eq] at h
      subst h
      simp only [runE]
      exact ev_str
    case h_6 y d x p =>
      simp only [Bool.and_eq_true, decide_eq_true_eq] at h
      obtain ⟨rfl, h⟩ := h
      obtain ⟨g1, g2, g3⟩ := ct.gl h
      simp only [runE]
      simp only [okE] at ok
      obtain ⟨u, v, o1, o2, o3⟩ := ok
      exact ev_glob g1 (by rw [ct.on.mg]; exact o1) o2 (fun F A => by rw [hG]; exact o3 F A) g3
    case h_7 es l a p =>
      simp only [Bool.and_eq_true] at h
      simp only [runE]
      exact ev_tup (sEs es tl k fn sc X W G l ρ S ct hG (by simpa only [okE] using ok) h.1 h.2)
    case h_8 m es l p =>
      simp only [Bool.and_eq_true] at h
      simp only [runE]
      have z := sEs es tl k fn sc X W G l ρ S ct hG (by simpa only [okE] using ok) h.1 h.2
      cases m with
      | true => exact ev_ptr z
      | false => exact ev_lst z
    case h_9 m op a b e1 op' e2 p =>
      simp only [Bool.and_eq_true, decide_eq_true_eq] at h
      obtain ⟨rfl, h1, h2⟩ := h
      simp only [okE] at ok
      simp only [runE]
      exact ev_op (sE a tl k fn sc X W G e1 ρ S ct hG ok.1 h1) (fun S1 => sE b tl k fn sc X W G e2 ρ S1 ct hG ok.2 h2) fun x y S2 => ox_bin hK
    case h_10 op a b e1 op' e2 p =>
      simp only [Bool.and_eq_true, decide_eq_true_eq, Bool.not_eq_true'] at h
      obtain ⟨rfl, h0, h1, h2⟩ := h
      simp only [okE] at ok
      simp only [runE]
      exact ev_cmp (sE a tl k fn sc X W G e1 ρ S ct hG ok.1 h1) (fun S1 => sE b tl k fn sc X W G e2 ρ S1 ct hG ok.2 h2) (fun x y S2 => ox_cmp hK hu) h0
    case h_11 o1 o2 a b c e1 p1 p2 e2 e3 p =>
      simp only [Bool.and_eq_true, decide_eq_true_eq, Bool.not_eq_true'] at h
      obtain ⟨rfl, rfl, h0, h1, h2, h3⟩ := h
      simp only [okE] at ok
      simp only [runE]
      exact ev_chain (sE a tl k fn sc X W G e1 ρ S ct hG ok.1 h1) (fun S1 => sE b tl k fn sc X W G e2 ρ S1 ct hG ok.2.1 h2) (fun S1 => sE c tl k fn sc X W G e3 ρ S1 ct hG ok.2.2 h3) (fun x y S2 => ox_cmp hK hu) (fun x y S2 => ox_cmp hK hu) h0
    case h_12 es l p =>
      simp only [Bool.and_eq_true, Bool.not_eq_true', List.isEmpty_eq_false_iff] at h
      simp only [runE]
      exact sAnd es tl k fn sc X W G l p ρ S ct hG (by simpa only [okE] using ok) h.1 h.2
    case h_13 es l p =>
      simp only [Bool.and_eq_true, Bool.not_eq_true', List.isEmpty_eq_false_iff] at h
      simp only [runE]
      exact sOr es tl k fn sc X W G l p ρ S ct hG (by simpa only [okE] using ok) h.1 h.2
    case h_14 a e1 p =>
      simp only [runE]
      exact ev_not hK (sE a tl k fn sc X W G e1 ρ S ct hG (by simpa only [okE] using ok) h)
    case h_15 a e1 p =>
      simp only [runE]
      exact ev_neg (sE a tl k fn sc X W G e1 ρ S ct hG (by simpa only [okE] using ok) h)
    case h_16 c a b e1 e2 e3 p =>
      simp only [Bool.and_eq_true] at h
      simp only [okE] at ok
      simp only [runE]
      exact ev_ife (sT c tl k fn sc X W G e1 ρ S ct hG ok.1 h.1) (fun S1 => sE a tl k fn sc X W G e2 ρ S1 ct hG ok.2.1 h.2.1) (fun S1 => sE b tl k fn sc X W G e3 ρ S1 ct hG ok.2.2 h.2.2)
    case h_17 a b e1 e2 p =>
      simp only [Bool.and_eq_true] at h
      simp only [okE] at ok
      simp only [runE]
      exact ev_ix hK h.1 (sE a tl k fn sc X W G e1 ρ S ct hG ok.1 h.2.1) (fun S1 => sE b tl k fn sc X W G e2 ρ S1 ct hG ok.2 h.2.2)
    case h_18 m a lo hi e1 l u p1 p2 =>
      simp only [Bool.and_eq_true] at h
      simp only [okE] at ok
      simp only [runE]
      exact ev_sl hK (sE a tl k fn sc X W G e1 ρ S ct hG ok.1 h.1) (fun S1 => sO lo tl k fn sc X W G l ρ S1 ct hG ok.2.1 h.2.1) (fun S1 => sO hi tl k fn sc X W G u ρ S1 ct hG ok.2.2 h.2.2)
    case h_19 m a e1 j p1 p2 p3 p4 =>
      simp only [runE]
      exact ev_rev (sE a tl k fn sc X W G e1 ρ S ct hG (by simpa only [okE] using ok) h)
    case h_20 x n f es y p l p2 =>
      simp only [Bool.and_eq_true, decide_eq_true_eq] at h
      obtain ⟨rfl, h1, h2, h3, h4⟩ := h
      simp only [okE] at ok
      obtain ⟨g1, g2, g3⟩ := ct.gl h1
      simp only [runE]
      have on : On G X := by rw [hG]; exact ct.on
      have L : FnLink G k x n f := by rw [hG]; exact ok.1
      cases l with
      | nil =>
        cases es with
        | nil =>
          simp only [IEs.len] at h3
          subst h3
          simp only [runEs, bnd_pur, List.length_nil, if_true]
          exact ev_call0 on ct.room ct.tk L g1 g3
        | cons e es => simp [mEs] at h4
      | cons e0 l => exact ev_call on ct.room ct.tk L g1 (sEs es tl k fn sc X W G (e0 :: l) ρ S ct hG ok.2 h2 h4) h2 g3
    case h_21 b es y p l p2 =>
      simp only [Bool.and_eq_true, decide_eq_true_eq, Bool.not_eq_true'] at h
      obtain ⟨rfl, h1, h2, h3, h4⟩ := h
      simp only [runE]
      cases l with
      | nil => simp at h2
      | cons e0 l => exact ev_bi fr ct hG b h1 (sEs es tl k fn sc X W G (e0 :: l) ρ S ct hG (by simpa only [okE] using ok) h3 h4) h3
    case h_22 e ts y p e1 c p2 =>
      simp only [Bool.and_eq_true, decide_eq_true_eq, List.all_eq_true] at h
      obtain ⟨rfl, h1, h2, h3, h4, h5⟩ := h
      obtain ⟨g1, g2, g3⟩ := ct.gl h1
      have hm : X.mg "isinstance" = none := by rw [ct.on.mg]; exact fr _ (by decide +kernel)
      simp only [runE]
      have z := sE e tl k fn sc X W G e1 ρ S ct hG (by simpa only [okE] using ok) h3
      split at h5
      · rename_i l kk pp
        simp only [Bool.and_eq_true] at h5
        exact ev_isiT hK h4 g1 hm boot_isi z (tys_of fr ct h4 h5.1) h5.2 h2
      · simp only [Bool.and_eq_true, decide_eq_true_eq] at h5
        obtain ⟨h5, h6⟩ := h5
        match ts, h5, h6 with
        | [T], _, h6 =>
          simp only [tysB, Bool.and_true] at h6
          exact ev_isi hK (h4 T (by simp)) g1 hm boot_isi z (ty_of fr ct (h4 T (by simp)) h6) h2
    case h_23 q o e o' nm ap e' p =>
      simp only [Bool.and_eq_true, decide_eq_true_eq] at h
      obtain ⟨rfl, h1, h2, h3, h4, h5⟩ := h
      simp only [okE] at ok
      simp only [runE]
      exact ev_me hK q (sE o tl k fn sc X W G o' ρ S ct hG ok.1 h4) (fun S1 => sE e tl k fn sc X W G e' ρ S1 ct hG ok.2 h5) h1 h2 h3
    case h_24 m own t it cs elt elt' tg iter ifs a scope p =>
      simp only [Bool.and_eq_true, decide_eq_true_eq, List.all_eq_true] at h
      obtain ⟨rfl, h1, h2, h3, h4, h5, h6, h7⟩ := h
      simp only [okE] at ok
      simp only [runE]
      have cb := ct.blk h1
      exact ev_lc hK ct.calm (by rw [ct.eN]; exact ct.nd) (by rw [ct.eN, ct.eS]; exact blkOk_by h1) (sI it tl k fn sc X W G tg iter ρ S ct hG ok.1 h5) h3
        (fun s H C cl fp => pg_of (by show X.K = G.K; exact hK) ct.calm ct.eN rfl (cb s H C cl fp).eS ct.nd h2)
        (fun G' hG' s H C cl fp ρ S => sC cs tl k _ _ _ W0 G' ifs ρ S (cb s H C cl fp) (hG'.trans hG) ok.2.1 h6)
        (fun G' hG' s H C cl fp ρ S => sE elt tl k _ _ _ W0 G' elt' ρ S (cb s H C cl fp) (hG'.trans hG) ok.2.2 h7) (folded_no h4)
    case h_25 e e' kk p =>
      simp only [Bool.and_eq_true, decide_eq_true_eq] at h
      obtain ⟨rfl, h⟩ := h
      simp only [runE]
      exact ev_fmt (sE e tl k fn sc X W G e' ρ S ct hG (by simpa only [okE] using ok) h)
    case h_26 es a b l p =>
      simp only [runE]
      exact ev_joined (sJ es tl k fn sc X W G (a :: b :: l) ρ Str.empty S ct hG (by simpa only [okE] using ok) h)
    case h_27 e y p a body lscope lp p2 =>
      simp only [Bool.and_eq_true, decide_eq_true_eq] at h
      obtain ⟨rfl, h1, h2, h3, h4⟩ := h
      have ha := argsB_ok h2
      subst ha
      simp only [okE] at ok
      obtain ⟨o1, o2, o3, o4⟩ := ok
      obtain ⟨j, rfl⟩ : ∃ j, k = j + 2 := ⟨k - 2, by omega⟩
      simp only [runE]
      exact ev_told ct o1 o2 hG (ct.gl h1).1 h3 fun Y W' cy S1 => sE e false j (fun _ => false) lscope Y W' G body ρ S1 cy hG (by simpa using o4) h4
    case h_28 => cases h
theorem sT : ∀ (ie : IE) (tl : Bool) (k : Nat) (fn : Str → Bool) (sc : Scope) (X : Cx) (W : WX) (G : Wd) (e : Expr) (ρ : Rho) (S : Store), Ct B tl k N fn sc X W → G.toBd = B → okE B tl k ie → mE N fn sc ie e = true → EvT G X W e ρ S (runT ρ ie S)
  | ie, tl, k, fn, sc, X, W, G, e, ρ, S, ct, hG, ok, h => by
    have hK : X.K = G.K := by rw [ct.on.K, ← hG]
    have z := sE ie tl k fn sc X W G e ρ S ct hG ok h
    unfold mE at h
    split at h
    case h_1 =>
      simp only [runE] at z
      simp only [runT]
      exact et_val hK rfl z
    case h_3 i j a p =>
      simp only [decide_eq_true_eq] at h
      subst h
      simp only [runT]
      exact et_bl hK
    case h_9 =>
      simp only [runE] at z
      simp only [runT]
      exact et_val hK rfl z
    case h_10 op a b e1 op' e2 p =>
      simp only [Bool.and_eq_true, decide_eq_true_eq, Bool.not_eq_true'] at h
      obtain ⟨rfl, h0, h1, h2⟩ := h
      simp only [okE] at ok
      simp only [runT]
      exact et_cmp (sE a tl k fn sc X W G e1 ρ S ct hG ok.1 h1) (fun S1 => sE b tl k fn sc X W G e2 ρ S1 ct hG ok.2 h2) (fun x y S2 => ox_cmp hK ct.room.units) h0
    case h_11 o1 o2 a b c e1 p1 p2 e2 e3 p =>
      simp only [Bool.and_eq_true, decide_eq_true_eq, Bool.not_eq_true'] at h
      obtain ⟨rfl, rfl, h0, h1, h2, h3⟩ := h
      simp only [okE] at ok
      simp only [runT]
      exact et_chain (sE a tl k fn sc X W G e1 ρ S ct hG ok.1 h1) (fun S1 => sE b tl k fn sc X W G e2 ρ S1 ct hG ok.2.1 h2) (fun S1 => sE c tl k fn sc X W G e3 ρ S1 ct hG ok.2.2 h3) (fun x y S2 => ox_cmp hK ct.room.units) (fun x y S2 => ox_cmp hK ct.room.units) h0
    case h_12 es l p =>
      simp only [Bool.and_eq_true, Bool.not_eq_true', List.isEmpty_eq_false_iff] at h
      simp only [runT]
      exact (sAndT es tl k fn sc X W G l p ρ S ct hG (by simpa only [okE] using ok) h.1 h.2).t
    case h_13 es l p =>
      simp only [Bool.and_eq_true, Bool.not_eq_true', List.isEmpty_eq_false_iff] at h
      simp only [runT]
      exact (sOrT es tl k fn sc X W G l p ρ S ct hG (by simpa only [okE] using ok) h.1 h.2).t
    case h_14 a e1 p =>
      simp only [runT]
      exact et_not (sT a tl k fn sc X W G e1 ρ S ct hG (by simpa only [okE] using ok) h)
    case h_17 =>
      simp only [runE] at z
      simp only [runT]
      exact et_val hK rfl z
    case h_20 =>
      simp only [runE] at z
      simp only [runT]
      exact et_val hK rfl z
    case h_21 =>
      simp only [runE] at z
      simp only [runT]
      exact et_val hK rfl z
    case h_22 =>
      simp only [runE] at z
      simp only [runT]
      exact et_val hK rfl z
    all_goals first
      | (cases h; done)
      | exact fun r S' hr => by simp only [runT] at hr; cases hr
theorem sEs : ∀ (ies : IEs) (tl : Bool) (k : Nat) (fn : Str → Bool) (sc : Scope) (X : Cx) (W : WX) (G : Wd) (es : List Expr) (ρ : Rho) (S : Store), Ct B tl k N fn sc X W → G.toBd = B → okEs B tl k ies → es.all unStar = true → mEs N fn sc ies es = true → EvA G X W es ρ S (runEs ρ ies S)
  | .nil, tl, k, fn, sc, X, W, G, es, ρ, S, ct, hG, ok, hu, h => by
    cases es with
    | nil => simp only [runEs]; exact ea_nil
    | cons e es => simp [mEs] at h
  | .cons ie ies, tl, k, fn, sc, X, W, G, es, ρ, S, ct, hG, ok, hu, h => by
    cases es with
    | nil => simp [mEs] at h
    | cons e es =>
      simp only [mEs, Bool.and_eq_true] at h
      simp only [List.all_cons, Bool.and_eq_true] at hu
      simp only [okEs] at ok
      simp only [runEs]
      exact ea_cons (sE ie tl k fn sc X W G e ρ S ct hG ok.1 h.1) (fun S1 => sEs ies tl k fn sc X W G es ρ S1 ct hG ok.2 hu.2 h.2) (star_cons hu.1)
theorem sO : ∀ (io : IO) (tl : Bool) (k : Nat) (fn : Str → Bool) (sc : Scope) (X : Cx) (W : WX) (G : Wd) (e : Option Expr) (ρ : Rho) (S : Store), Ct B tl k N fn sc X W → G.toBd = B → okIO B tl k io → mO N fn sc io e = true → EvP G X W e ρ S (runO ρ io S)
  | .no, tl, k, fn, sc, X, W, G, e, ρ, S, ct, hG, ok, h => by
    cases e with
    | none => simp only [runO]; rfl
    | some e => simp [mO] at h
  | .yes ie, tl, k, fn, sc, X, W, G, e, ρ, S, ct, hG, ok, h => by
    cases e with
    | none => simp [mO] at h
    | some e =>
      simp only [mO] at h
      simp only [okIO] at ok
      simp only [runO]
      exact ⟨_, sE ie tl k fn sc X W G e ρ S ct hG ok h, rfl⟩
theorem sC : ∀ (io : IO) (tl : Bool) (k : Nat) (fn : Str → Bool) (sc : Scope) (X : Cx) (W : WX) (G : Wd) (es : List Expr) (ρ : Rho) (S : Store), Ct B tl k N fn sc X W → G.toBd = B → okIO B tl k io → mCs N fn sc io es = true → EvTs G X W es ρ S (runC ρ io S)
  | .no, tl, k, fn, sc, X, W, G, es, ρ, S, ct, hG, ok, h => by
    cases es with
    | nil => simp only [runC]; exact ets_nil
    | cons e es => simp [mCs] at h
  | .yes ie, tl, k, fn, sc, X, W, G, es, ρ, S, ct, hG, ok, h => by
    match es, h with
    | [e], h =>
      simp only [mCs] at h
      simp only [okIO] at ok
      simp only [runC]
      exact ets_one (sT ie tl k fn sc X W G e ρ S ct hG ok h)
theorem sI : ∀ (ii : II) (tl : Bool) (k : Nat) (fn : Str → Bool) (sc : Scope) (X : Cx) (W : WX) (G : Wd) (tg e : Expr) (ρ : Rho) (S : Store), Ct B tl k N fn sc X W → G.toBd = B → okI B tl k ii → mI N fn sc tg ii e = true → EvI G X W tg e ρ S (runI ρ ii S)
  | .seq ie, tl, k, fn, sc, X, W, G, tg, e, ρ, S, ct, hG, ok, h => by
    have hK : X.K = G.K := by rw [ct.on.K, ← hG]
    simp only [mI] at h
    simp only [okI] at ok
    simp only [runI]
    exact ei_seq hK (sE ie tl k fn sc X W G e ρ S ct hG ok h)
  | .rng1 ie, tl, k, fn, sc, X, W, G, tg, e, ρ, S, ct, hG, ok, h => by
    simp only [okI] at ok
    unfold mI at h
    split at h <;> try (simp only [reduceCtorEq] at *; done)
    case h_2 ie' y p x p2 hh =>
      cases hh
      simp only [Bool.and_eq_true, decide_eq_true_eq] at h
      obtain ⟨rfl, h1, h2, h3⟩ := h
      have hm : X.mg "range" = none := by rw [ct.on.mg]; exact fr _ (by decide +kernel)
      simp only [runI]
      exact ei_rng1 (ct.gl h1).1 hm (ea_cons (sE ie tl k fn sc X W G x ρ S ct hG ok h3) (fun S1 => ea_nil) (star_cons h2)) h2
    all_goals cases h
  | .rng2 a b, tl, k, fn, sc, X, W, G, tg, e, ρ, S, ct, hG, ok, h => by
    simp only [okI] at ok
    unfold mI at h
    split at h <;> try (simp only [reduceCtorEq] at *; done)
    case h_3 a' b' y p x1 x2 p2 hh =>
      cases hh
      simp only [Bool.and_eq_true, decide_eq_true_eq] at h
      obtain ⟨rfl, h1, h2, h3, h4, h5⟩ := h
      have hm : X.mg "range" = none := by rw [ct.on.mg]; exact fr _ (by decide +kernel)
      simp only [runI]
      exact ei_rng2 (ct.gl h1).1 hm (ea_cons (sE a tl k fn sc X W G x1 ρ S ct hG ok.1 h4) (fun S1 => ea_cons (sE b tl k fn sc X W G x2 ρ S1 ct hG ok.2 h5) (fun S2 => ea_nil) (star_cons h3)) (star_cons h2)) h2 h3
    all_goals cases h
  | .enum ie, tl, k, fn, sc, X, W, G, tg, e, ρ, S, ct, hG, ok, h => by
    simp only [okI] at ok
    unfold mI at h
    split at h <;> try (simp only [reduceCtorEq] at *; done)
    case h_4 ie' y p x p2 hh =>
      cases hh
      simp only [Bool.and_eq_true, decide_eq_true_eq] at h
      obtain ⟨ht, rfl, h1, h2, h3⟩ := h
      have hm : X.mg "enumerate" = none := by rw [ct.on.mg]; exact fr _ (by decide +kernel)
      simp only [runI]
      cases tg with
      | Tuple elts kk tpos => exact ei_enum (ct.gl h1).1 hm (sE ie tl k fn sc X W G x ρ S ct hG ok h3) h2
      | _ => cases ht
    all_goals cases h
  | .zip a b, tl, k, fn, sc, X, W, G, tg, e, ρ, S, ct, hG, ok, h => by
    simp only [okI] at ok
    unfold mI at h
    split at h <;> try (simp only [reduceCtorEq] at *; done)
    case h_5 a' b' y p x1 x2 p2 hh =>
      cases hh
      simp only [Bool.and_eq_true, decide_eq_true_eq] at h
      obtain ⟨ht, rfl, h1, h2, h3, h4, h5⟩ := h
      have hm : X.mg "zip" = none := by rw [ct.on.mg]; exact fr _ (by decide +kernel)
      simp only [runI]
      cases tg with
      | Tuple elts kk tpos => exact ei_zip (ct.gl h1).1 hm (sE a tl k fn sc X W G x1 ρ S ct hG ok.1 h4) (fun S1 => sE b tl k fn sc X W G x2 ρ S1 ct hG ok.2 h5) h2 h3
      | _ => cases ht
    all_goals cases h
theorem sJ : ∀ (ies : IEs) (tl : Bool) (k : Nat) (fn : Str → Bool) (sc : Scope) (X : Cx) (W : WX) (G : Wd) (es : List Expr) (ρ : Rho) (acc : Str) (S : Store), Ct B tl k N fn sc X W → G.toBd = B → okEs B tl k ies → mEs N fn sc ies es = true → EvJ G X W es ρ acc S (runJ ρ ies acc S)
  | .nil, tl, k, fn, sc, X, W, G, es, ρ, acc, S, ct, hG, ok, h => by
    cases es with
    | nil => simp only [runJ]; exact ej_nil
    | cons e es => simp [mEs] at h
  | .cons ie ies, tl, k, fn, sc, X, W, G, es, ρ, acc, S, ct, hG, ok, h => by
    cases es with
    | nil => simp [mEs] at h
    | cons e es =>
      simp only [mEs, Bool.and_eq_true] at h
      simp only [okEs] at ok
      simp only [runJ]
      exact ej_cons (sE ie tl k fn sc X W G e ρ S ct hG ok.1 h.1) fun acc' S1 => sJ ies tl k fn sc X W G es ρ acc' S1 ct hG ok.2 h.2
theorem sAnd : ∀ (ies : IEs) (tl : Bool) (k : Nat) (fn : Str → Bool) (sc : Scope) (X : Cx) (W : WX) (G : Wd) (es : List Expr) (p : Pos) (ρ : Rho) (S : Store), Ct B tl k N fn sc X W → G.toBd = B → okEs B tl k ies → es ≠ [] → mEs N fn sc ies es = true → EvE G X W (.BoolOp .And es p) ρ S (andE ρ ies S)
  | .nil, tl, k, fn, sc, X, W, G, es, p, ρ, S, ct, hG, ok, hn, h => fun r S' hr => by simp [andE] at hr
  | .cons ie .nil, tl, k, fn, sc, X, W, G, es, p, ρ, S, ct, hG, ok, hn, h => by
    match es, h with
    | [], h => exact absurd rfl hn
    | _ :: _ :: _, h => simp [mEs] at h
    | [e], h =>
      simp only [mEs, Bool.and_eq_true] at h
      simp only [okEs] at ok
      simp only [andE]
      exact ev_one (sE ie tl k fn sc X W G e ρ S ct hG ok.1 h.1)
  | .cons ie (.cons ie2 ies), tl, k, fn, sc, X, W, G, es, p, ρ, S, ct, hG, ok, hn, h => by
    match es, h with
    | [], h => exact absurd rfl hn
    | [_], h => simp [mEs] at h
    | e :: e2 :: es, h =>
      rw [mEs, Bool.and_eq_true] at h
      rw [okEs] at ok
      simp only [andE]
      exact ev_and (sE ie tl k fn sc X W G e ρ S ct hG ok.1 h.1) fun S1 => sAnd (.cons ie2 ies) tl k fn sc X W G (e2 :: es) p ρ S1 ct hG ok.2 (by simp) h.2
theorem sOr : ∀ (ies : IEs) (tl : Bool) (k : Nat) (fn : Str → Bool) (sc : Scope) (X : Cx) (W : WX) (G : Wd) (es : List Expr) (p : Pos) (ρ : Rho) (S : Store), Ct B tl k N fn sc X W → G.toBd = B → okEs B tl k ies → es ≠ [] → mEs N fn sc ies es = true → EvE G X W (.BoolOp .Or es p) ρ S (orE ρ ies S)
  | .nil, tl, k, fn, sc, X, W, G, es, p, ρ, S, ct, hG, ok, hn, h => fun r S' hr => by simp [orE] at hr
  | .cons ie .nil, tl, k, fn, sc, X, W, G, es, p, ρ, S, ct, hG, ok, hn, h => by
    match es, h with
    | [], h => exact absurd rfl hn
    | _ :: _ :: _, h => simp [mEs] at h
    | [e], h =>
      simp only [mEs, Bool.and_eq_true] at h
      simp only [okEs] at ok
      simp only [orE]
      exact ev_one (sE ie tl k fn sc X W G e ρ S ct hG ok.1 h.1)
  | .cons ie (.cons ie2 ies), tl, k, fn, sc, X, W, G, es, p, ρ, S, ct, hG, ok, hn, h => by
    match es, h with
    | [], h => exact absurd rfl hn
    | [_], h => simp [mEs] at h
    | e :: e2 :: es, h =>
      rw [mEs, Bool.and_eq_true] at h
      rw [okEs] at ok
      simp only [orE]
      exact ev_or (sE ie tl k fn sc X W G e ρ S ct hG ok.1 h.1) fun S1 => sOr (.cons ie2 ies) tl k fn sc X W G (e2 :: es) p ρ S1 ct hG ok.2 (by simp) h.2
theorem sAndT : ∀ (ies : IEs) (tl : Bool) (k : Nat) (fn : Str → Bool) (sc : Scope) (X : Cx) (W : WX) (G : Wd) (es : List Expr) (p : Pos) (ρ : Rho) (S : Store), Ct B tl k N fn sc X W → G.toBd = B → okEs B tl k ies → es ≠ [] → mEs N fn sc ies es = true → EvW G X W (.BoolOp .And es p) ρ S (andT ρ ies S)
  | .nil, tl, k, fn, sc, X, W, G, es, p, ρ, S, ct, hG, ok, hn, h => fun r S' hr => by simp [andT] at hr
  | .cons ie .nil, tl, k, fn, sc, X, W, G, es, p, ρ, S, ct, hG, ok, hn, h => by
    match es, h with
    | [], h => exact absurd rfl hn
    | _ :: _ :: _, h => simp [mEs] at h
    | [e], h =>
      simp only [mEs, Bool.and_eq_true] at h
      simp only [okEs] at ok
      simp only [andT]
      exact ew_and1 (sT ie tl k fn sc X W G e ρ S ct hG ok.1 h.1)
  | .cons ie (.cons ie2 ies), tl, k, fn, sc, X, W, G, es, p, ρ, S, ct, hG, ok, hn, h => by
    match es, h with
    | [], h => exact absurd rfl hn
    | [_], h => simp [mEs] at h
    | e :: e2 :: es, h =>
      rw [mEs, Bool.and_eq_true] at h
      rw [okEs] at ok
      simp only [andT]
      exact ew_and (sT ie tl k fn sc X W G e ρ S ct hG ok.1 h.1) fun S1 => sAndT (.cons ie2 ies) tl k fn sc X W G (e2 :: es) p ρ S1 ct hG ok.2 (by simp) h.2
theorem sOrT : ∀ (ies : IEs) (tl : Bool) (k : Nat) (fn : Str → Bool) (sc : Scope) (X : Cx) (W : WX) (G : Wd) (es : List Expr) (p : Pos) (ρ : Rho) (S : Store), Ct B tl k N fn sc X W → G.toBd = B → okEs B tl k ies → es ≠ [] → mEs N fn sc ies es = true → EvW G X W (.BoolOp .Or es p) ρ S (orT ρ ies S)
  | .nil, tl, k, fn, sc, X, W, G, es, p, ρ, S, ct, hG, ok, hn, h => fun r S' hr => by simp [orT] at hr
  | .cons ie .nil, tl, k, fn, sc, X, W, G, es, p, ρ, S, ct, hG, ok, hn, h => by
    match es, h with
    | [], h => exact absurd rfl hn
    | _ :: _ :: _, h => simp [mEs] at h
    | [e], h =>
      simp only [mEs, Bool.and_eq_true] at h
      simp only [okEs] at ok
      simp only [orT]
      exact ew_or1 (sT ie tl k fn sc X W G e ρ S ct hG ok.1 h.1)
  | .cons ie (.cons ie2 ies), tl, k, fn, sc, X, W, G, es, p, ρ, S, ct, hG, ok, hn, h => by
    match es, h with
    | [], h => exact absurd rfl hn
    | [_], h => simp [mEs] at h
    | e :: e2 :: es, h =>
      rw [mEs, Bool.and_eq_true] at h
      rw [okEs] at ok
      simp only [orT]
      exact ew_or (sT ie tl k fn sc X W G e ρ S ct hG ok.1 h.1) fun S1 => sOrT (.cons ie2 ies) tl k fn sc X W G (e2 :: es) p ρ S1 ct hG ok.2 (by simp) h.2
end
end
end Z


set_option Elab.async false
set_option linter.all false
set_option maxRecDepth 100000
set_option maxHeartbeats 4000000
namespace Z
open PySem PySem.Spec PyProof.Rows L2
open LamX (Tabs TabS ExtN CodeO)
/-! ## statements: what is read is what runs -/
section
variable {B : Bd} {tl : Bool} {k : Nat} (fr : FreeOk B) (N : List Str)
theorem swap_lc {sc : Scope} {env : Env} (he : env.scope = sc) (hk : sc.kind = .function) {elt : Expr} {gs : List Comprehension} {scope : Scope} {p py : Pos} {y : Str} {l : Nat} :
    swapsWith (.ListComp elt gs scope p) (some (.Name y py)) l env = pure (swB sc (.ListComp elt gs scope p) (.Name y py) l) := by
  subst he
  have hb : env.blockKind = .function := by unfold Env.blockKind; rw [hk]; rfl
  unfold swapsWith swB
  simp only [hb, Expr.pos]
  have e1 : (env.kindOf y == some NameKind.local) = decide (env.scope.names.lookup y = some .local) := by
    show (env.scope.names.lookup y == some NameKind.local) = _
    rw [Bool.eq_iff_iff]
    simp
  rw [e1]
  cases decide (env.scope.names.lookup y = some NameKind.local) <;> cases (py.line == p.line) <;> simp
theorem swap_name {sc : Scope} {env : Env} (he : env.scope = sc) (hk : sc.kind = .function) {e : Expr} {py : Pos} {y : Str} {l : Nat} (hn : (match e with
  | .SetComp .. => false
  | .DictComp .. => false
  | _ => true) = true) (h : swB sc e (.Name y py) l = false) : swapsWith e (some (.Name y py)) l env = pure false := by
  cases e with
  | ListComp elt gs scope p => rw [swap_lc he hk, h]
  | SetComp => cases hn
  | DictComp => cases hn
  | _ => rfl
theorem swap_other {env : Env} {e t : Expr} {l : Nat} (hn : (match e with
  | .SetComp .. => false
  | .DictComp .. => false
  | _ => true) = true) (ht : ∀ y p, t ≠ .Name y p) : swapsWith e (some t) l env = pure false := by
  cases e with
  | SetComp => cases hn
  | DictComp => cases hn
  | ListComp elt gs scope p =>
    cases t with
    | Name y p => exact absurd rfl (ht y p)
    | _ => rfl
  | _ => rfl
theorem mE_lc {fn : Str → Bool} {sc : Scope} {ie : IE} {elt : Expr} {gs : List Comprehension} {scope : Scope} {p : Pos} (h : mE N fn sc ie (.ListComp elt gs scope p) = true) :
    ∃ m own t it cs elt' tg iter ifs, ie = .lc m own t it cs elt' ∧ gs = [⟨tg, iter, ifs, 0⟩] ∧ blkC N sc scope own = true ∧ mtT N (fun x => scope.names.lookup x == some .cell) (relS scope sc) t tg = true ∧ (∀ i ∈ t.slots, i ∈ own.map (·.2)) ∧ unSet iter = true ∧ mI N fn sc tg it iter = true ∧
      mCs N (fun x => scope.names.lookup x == some .cell) (relS scope sc) cs ifs = true ∧ mE N (fun x => scope.names.lookup x == some .cell) (relS scope sc) elt' elt = true := by
  unfold mE at h
  split at h <;> try (simp only [reduceCtorEq] at *; done)
  case h_24 m own t it cs elt2 elt3 tg iter ifs a scope2 p2 hh =>
    cases hh
    simp only [Bool.and_eq_true, decide_eq_true_eq, List.all_eq_true] at h
    obtain ⟨rfl, h1, h2, h3, h4, h5, h6, h7⟩ := h
    exact ⟨m, own, t, it, cs, elt2, tg, iter, ifs, rfl, rfl, h1, h2, h3, h4, h5, h6, h7⟩
  all_goals cases h
include fr
mutual
theorem sS : ∀ (is : IS) (fn : Str → Bool) (sc : Scope) (X : Cx) (W : WX) (G : Wd) (st : Stmt) (ρ : Rho) (S : Store), Ct B tl k N fn sc X W → G.toBd = B → okS B tl k is → mS N fn sc is st = true → EvS G X W st ρ S (runS ρ is S)
  | is, fn, sc, X, W, G, st, ρ, S, ct, hG, ok, h => by
    have hK : X.K = G.K := by rw [ct.on.K, ← hG]
    unfold mS at h
    split at h
    case h_1 => simp only [runS]; exact es_pass
    case h_2 => simp only [runS]; exact es_break
    case h_3 => simp only [runS]; exact es_cont
    case h_4 e x p =>
      simp only [Bool.and_eq_true] at h
      simp only [runS]
      exact es_expr (sE fr N e tl k fn sc X W G x ρ S ct hG (by simpa only [okS] using ok) h.2) h.1
    case h_5 e x p =>
      simp only [runS]
      exact es_ret (sE fr N e tl k fn sc X W G x ρ S ct hG (by simpa only [okS] using ok) h)
    case h_6 => simp only [runS]; exact es_retN
    case h_7 t e tg x p =>
      simp only [Bool.and_eq_true] at h
      obtain ⟨ha, ht, he⟩ := h
      simp only [asB, Bool.and_eq_true] at ha
      obtain ⟨a1, a2, a3, a4⟩ := ha
      have ok' : okE B tl k e := by simpa only [okS] using ok
      have z := sE fr N e tl k fn sc X W G x ρ S ct hG ok' he
      have hg := pg_of (K := G.K) hK ct.calm ct.eN ct.eF ct.eS ct.nd ht
      simp only [runS]
      by_cases hsw : swB sc x tg p.line = true
      · have z1 : ∃ elt gs scope p2 y py, x = .ListComp elt gs scope p2 ∧ tg = .Name y py := by
          unfold swB at hsw
          split at hsw
          · exact ⟨_, _, _, _, _, _, rfl, rfl⟩
          · cases hsw
        obtain ⟨elt, gs, scope, p2, y, py, rfl, rfl⟩ := z1
        have hswX : swapsWith (.ListComp elt gs scope p2) (some (.Name y py)) p.line X.env = pure true := by rw [swap_lc ct.eS ct.kind, hsw]
        have hyl : X.env.scope.names.lookup y = some .local := by
          rw [ct.eS]
          simp only [swB, Bool.and_eq_true, decide_eq_true_eq] at hsw
          exact hsw.1
        rw [hsw] at a4
        simp only [Bool.not_true, Bool.false_or] at a4
        cases t with
        | tp l => simp at a4
        | nm i =>
          simp only [decide_eq_true_eq] at a4
          obtain ⟨m, own, t, it, cs, elt', tg, iter, ifs, rfl, rfl, h1, h2, h3, h4, h5, h6, h7⟩ := mE_lc N he
          simp only [okE] at ok'
          have cb := ct.blk h1
          simp only [runE]
          exact es_asgLc hK ct.calm (by rw [ct.eN]; exact ct.nd) (by rw [ct.eN]; exact a4) hyl hswX (by rw [ct.eN, ct.eS]; exact blkOk_by h1) (sI fr N it tl k fn sc X W G tg iter ρ S ct hG ok'.1 h5) h3
            (fun s H C cl fp => pg_of (by show X.K = G.K; exact hK) ct.calm ct.eN rfl (cb s H C cl fp).eS ct.nd h2)
            (fun G' hG' s H C cl fp ρ S => sC fr N cs tl k _ _ _ W0 G' ifs ρ S (cb s H C cl fp) (hG'.trans hG) ok'.2.1 h6)
            (fun G' hG' s H C cl fp ρ S => sE fr N elt' tl k _ _ _ W0 G' elt ρ S (cb s H C cl fp) (hG'.trans hG) ok'.2.2 h7) (folded_no h4)
      · have hswf : swB sc x tg p.line = false := by simpa using hsw
        refine es_asg (N := N) z hg ?_ a2 a1
        show swapsWith x (some tg) p.line X.env = pure false
        cases tg with
        | Name y py => exact swap_name ct.eS ct.kind a3 hswf
        | _ => exact swap_other a3 (fun y p => by intro z; cases z)
    case h_8 e o i o' i' p2 x p =>
      simp only [Bool.and_eq_true] at h
      obtain ⟨h1, h2, h3, h4, h5⟩ := h
      simp only [okS] at ok
      simp only [runS]
      exact es_sub (sE fr N e tl k fn sc X W G x ρ S ct hG ok.1 h3) (fun S1 => sE fr N o tl k fn sc X W G o' ρ S1 ct hG ok.2.1 h4) (fun S1 => sE fr N i tl k fn sc X W G i' ρ S1 ct hG ok.2.2 h5) (show swapsWith x (some (.Subscript o' i' p2)) p.line X.env = pure false from swap_no h2) h1
    case h_9 c a b x p q pos =>
      simp only [Bool.and_eq_true] at h
      simp only [okS] at ok
      simp only [runS]
      exact es_if (sT fr N c tl k fn sc X W G x ρ S ct hG ok.1 h.1) (fun S1 => sB a fn sc X W G p ρ S1 ct hG ok.2.1 h.2.1) (fun S1 => sB b fn sc X W G q ρ S1 ct hG ok.2.2 h.2.2)
    case h_10 t it body tg iter p pos =>
      simp only [Bool.and_eq_true] at h
      obtain ⟨h1, h2, h3, h4⟩ := h
      simp only [okS] at ok
      simp only [runS]
      exact es_for ct.pass ct.calm (sI fr N it tl k fn sc X W G tg iter ρ S ct hG ok.1 h3) (pg_of hK ct.calm ct.eN ct.eF ct.eS ct.nd h1) (fun ρ1 S1 => sB body fn sc X W G p ρ1 S1 ct hG ok.2 h4) h2
    case h_11 n c body x p pos =>
      simp only [Bool.and_eq_true] at h
      simp only [okS] at ok
      simp only [runS]
      exact es_while ct.pass (fun ρ1 S1 => sT fr N c tl k fn sc X W G x ρ1 S1 ct hG ok.1 h.1) (fun ρ1 S1 => sB body fn sc X W G p ρ1 S1 ct hG ok.2 h.2)
    case h_12 c e y p1 x p2 p3 =>
      simp only [Bool.and_eq_true, decide_eq_true_eq] at h
      obtain ⟨rfl, h1, h2, h3⟩ := h
      simp only [okS] at ok
      simp only [runS]
      exact ok.1 X W N fn sc tl ct G hG ρ S x _ p1 p2 p3 (sE fr N e tl k fn sc X W G x ρ S ct hG ok.2 h3) (ct.gl h1).1 h2
    case h_13 => cases h
theorem sB : ∀ (is : ISs) (fn : Str → Bool) (sc : Scope) (X : Cx) (W : WX) (G : Wd) (sts : List Stmt) (ρ : Rho) (S : Store), Ct B tl k N fn sc X W → G.toBd = B → okB B tl k is → mB N fn sc is sts = true → EvB G X W sts ρ S (runB is ρ S)
  | .nil, fn, sc, X, W, G, sts, ρ, S, ct, hG, ok, h => by
    cases sts with
    | nil => simp only [runB]; exact eb_nil
    | cons e es => simp [mB] at h
  | .cons s r, fn, sc, X, W, G, sts, ρ, S, ct, hG, ok, h => by
    cases sts with
    | nil => simp [mB] at h
    | cons st sts =>
      rw [mB, Bool.and_eq_true] at h
      rw [okB] at ok
      simp only [runB]
      exact eb_cons (sS s fn sc X W G st ρ S ct hG ok.1 h.1) fun ρ1 S1 => sB r fn sc X W G sts ρ1 S1 ct hG ok.2 h.2
end
/-- a def by its text at the data level -/
theorem fn_ir {x : Str} {st : Stmt} {a : Addr} {fd : FuncData} {ps : List Str} {n : Nat} {is : ISs} (F : Fun B.K x x st a fd) (S : FnScope N ps (defScope st)) (hm : B.mg x = some (.ref a)) (bi : Binds B.K fd ps []) (hn : ps.length = n)
    (hlam : tl = true → ∃ c P, fd.code = .ref c ∧ LamX.TabB B.base B.mg c P ∧ (P, (x ++ ".<locals>.") ++ "<lambda>") ∈ B.T ∧ ∀ p ∈ B.T, p.1 = P → p.2 = (x ++ ".<locals>.") ++ "<lambda>")
    (ok : okB B tl k is) (h : mB N (fun _ => true) (defScope st) is (defBody st) = true) : FnLink B (k + 1) x n (retF fun ds S => runB is (startR N ds) S) :=
  fn_link (tl := tl) F S hm bi hn hlam fun X W ct G hG ds S _ => sB fr N is _ _ X W G (defBody st) _ S ct hG ok h
end
/-- .. by what is known of it alone -/
theorem fn_irO {B : Bd} {tl : Bool} {k : Nat} (fr : FreeOk B) (N : List Str) {x : Str} {st : Stmt} {a : Addr} {fd : FuncData} {ps : List Str} {n : Nat} {is : ISs} (F : Fun B.K x x st a fd) (S : FnScope N ps (defScope st)) (hn : ps.length = n)
    (hlam : tl = true → ∃ c P, fd.code = .ref c ∧ LamX.TabB B.base B.mg c P ∧ (P, (x ++ ".<locals>.") ++ "<lambda>") ∈ B.T ∧ ∀ p ∈ B.T, p.1 = P → p.2 = (x ++ ".<locals>.") ++ "<lambda>")
    (ok : okB B tl k is) (h : mB N (fun _ => true) (defScope st) is (defBody st) = true) : FnOk B.P B.w B.K B.mg B.base (L2.CX B.P B.w) (k + 1) a fd ps (FnSp B n (retF fun ds S => runB is (startR N ds) S)) :=
  fn_okF (tl := tl) F S hn hlam fun X W ct G hG ds S _ => sB fr N is _ _ X W G (defBody st) _ S ct hG ok h
/-- a def whose new lists live on -/
def keepF (body : List D → Store → MS) : Fn := fun ds S => match body ds S with
  | some (.ok (.rt d), S1) => some (.ok d, S1)
  | some (.ok (.nx _), S1) => some (.ok .non, S1)
  | some (.err c d, S1) => some (.err c d, S1)
  | _ => none
theorem fn_linkK {B : Bd} {tl : Bool} {x : Str} {st : Stmt} {a : Addr} {fd : FuncData} {N ps : List Str} {k n : Nat} {body : List D → Store → MS} (F : Fun B.K x x st a fd) (S : FnScope N ps (defScope st)) (hm : B.mg x = some (.ref a)) (bi : Binds B.K fd ps []) (hn : ps.length = n)
    (hlam : tl = true → ∃ c P, fd.code = .ref c ∧ LamX.TabB B.base B.mg c P ∧ (P, (x ++ ".<locals>.") ++ "<lambda>") ∈ B.T ∧ ∀ p ∈ B.T, p.1 = P → p.2 = (x ++ ".<locals>.") ++ "<lambda>")
    (hb : ∀ (X : Cx) (W : WX), Ct B tl k N (fun _ => true) (defScope st) X W → ∀ (G : Wd), G.toBd = B → ∀ ds S, ds.length = n → EvB G X W (defBody st) (startR N ds) S (body ds S)) : FnLink B (k + 1) x n (keepF body) := by
  refine ⟨a, fd, ps, hn, ?_, hm, F.kp, bi⟩
  have hlen : ∀ vs H Q E, FnSp B n (keepF body) vs H Q E → vs.length = ps.length := by
    rintro vs H Q E ⟨pin, ds, S, F, A, r, S', h0, hv, hl, _⟩
    rw [hv.len, hl, hn]
  obtain ⟨oc, od, kV, doc, pm, an, cdv, cdt, osl, rfl, lk, hcd⟩ := F.ex
  refine fn_of lk hcd S hlen fun Ar outer s H vs Q E hr hsp => ⟨_, smB, ?_⟩
  obtain ⟨pin, ds, S1, F1, A1, r, S', h0, hv, hl, hf, hpost⟩ := hsp
  have tk : Takes (cxOf (L2.CX B.P B.w) B.P B.w B.K B.mg B.base N x (defScope st) a cdv Ar outer s H E) (fun cls d _ H => E cls d H) := takes_of rfl rfl rfl rfl
  have ctx : Ct B tl k N (fun _ => true) (defScope st) (cxOf (L2.CX B.P B.w) B.P B.w B.K B.mg B.base N x (defScope st) a cdv Ar outer s H E) (fun cls d _ H => E cls d H) :=
    ⟨⟨rfl, rfl, rfl, rfl, rfl⟩, rfl, S.nd, rfl, rfl, S.kind, rfl, hr, tk, passes_of rfl, .inl ⟨rfl, rfl, rfl⟩, fun htl => by
      obtain ⟨c, P, e, h1, h2, h3⟩ := hlam htl
      exact ⟨⟨c, P, h1, e, h2, h3⟩⟩⟩
  have hbb := hb _ _ ctx ⟨B, pin⟩ rfl ds S1 hl
  unfold keepF at hf
  split at hf
  · rename_i d S2 hbd
    cases hf
    exact hbb _ _ hbd _ _ F1 A1 h0 (start_sl hv) _ fun v F' A' H' k0 kg kv => hpost v F' A' H' k0 kg kv
  · rename_i ρ' S2 hbd
    cases hf
    exact hbb _ _ hbd _ _ F1 A1 h0 (start_sl hv) _ fun σ' F' A' H' hl k0 kg ks => hpost .non F' A' H' k0 kg (isD_non.mpr rfl)
  · rename_i c d S2 hbd
    cases hf
    exact hbb _ _ hbd _ _ F1 A1 h0 (start_sl hv) _ fun C dd v F' A' H' σ' hl k0 kg hc hx kv => hpost C dd v F' A' H' k0 kg hc hx kv
  · cases hf
theorem fn_irK {B : Bd} {tl : Bool} {k : Nat} (fr : FreeOk B) (N : List Str) {x : Str} {st : Stmt} {a : Addr} {fd : FuncData} {ps : List Str} {n : Nat} {is : ISs} (F : Fun B.K x x st a fd) (S : FnScope N ps (defScope st)) (hm : B.mg x = some (.ref a)) (bi : Binds B.K fd ps []) (hn : ps.length = n)
    (hlam : tl = true → ∃ c P, fd.code = .ref c ∧ LamX.TabB B.base B.mg c P ∧ (P, (x ++ ".<locals>.") ++ "<lambda>") ∈ B.T ∧ ∀ p ∈ B.T, p.1 = P → p.2 = (x ++ ".<locals>.") ++ "<lambda>")
    (ok : okB B tl k is) (h : mB N (fun _ => true) (defScope st) is (defBody st) = true) : FnLink B (k + 1) x n (keepF fun ds S => runB is (startR N ds) S) :=
  fn_linkK (tl := tl) F S hm bi hn hlam fun X W ct G hG ds S _ => sB fr N is _ _ X W G (defBody st) _ S ct hG ok h
/-- nothing is promised -/
theorem fn_none {B : Bd} {k : Nat} {x : Str} {st : Stmt} {a : Addr} {fd : FuncData} {ps : List Str} {n : Nat} (F : Fun B.K x x st a fd) (hm : B.mg x = some (.ref a)) (bi : Binds B.K fd ps []) (hn : ps.length = n) : FnLink B k x n (fun _ _ => none) := by
  refine ⟨a, fd, ps, hn, ⟨fun vs H Q E h => ?_, fun A outer s H args us vs Q E _ _ _ _ h => ?_⟩, hm, F.kp, bi⟩
  · obtain ⟨_, _, _, _, _, _, _, _, _, _, z, _⟩ := h
    cases z
  · obtain ⟨_, _, _, _, _, _, _, _, _, _, z, _⟩ := h
    cases z
end Z


set_option Elab.async false
set_option linter.all false
set_option maxRecDepth 100000
set_option maxHeartbeats 4000000
namespace Z
open PySem PySem.Spec PyProof.Rows L2
open LamX (Tabs TabS ExtN CodeO)

/-! ## exceptions of the program -/
/-- the body of such a class's __init__ -/
inductive InitBody (x : Str) : List Stmt → Prop where
  | mk (p0 p1 pa p2 p3 p4 p5 p6 p7 p8 : Pos) (hl : (pa.endLine == p3.line) = true) : InitBody x [.Expr (.Call (.Attribute (.Call (.Name "super" p0) [] [] p1) "__init__" pa) [.Name x p2] [] p3) p4, .Assign [.Attribute (.Name "self" p5) x p6] (.Name x p7) p8]
inductive InitArgs (x : Str) : Arguments → Prop where
  | mk (a b : Option Expr) (p q : Pos) : InitArgs x ⟨[], [⟨"self", a, p⟩, ⟨x, b, q⟩], none, [], [], none, []⟩
/-- what is known of the class at C, its __init__ at fI, the field x -/
structure XcF (K : PySem.W.Frag) (P : Program) (C fI : Addr) (x : Str) : Prop where
  oex : OexC K C
  over : PySem.W.excInitIn K C He.veBase "ValueError.__new__" = true
  sup : PySem.W.ks_superIn K C C "__init__" = some (some (.builtin "ValueError.__init__"))
  subV : PySem.W.subIn K (.ref C) (.type "ValueError") = some true
  opq : PySem.W.nsIn K cStatics "thirdparty.any" = some none
  mro : PySem.W.mroIn K C (.ref C) = some true
  noF : PySem.W.findIn K (.ref C) x = some none
  ini : PySem.W.findIn K (.ref C) "__init__" = some (some (.ref fI))
  tyI : PySem.W.typeIn K (.ref fI) = some (.type "function")
  top : (P.main.scope.names.lookup ("super" : Str)).isSome = false
  fn : ∃ (oc : Value) (od : Option Addr) (osl : Array (Option Value)) (name qual : Str) (params : Arguments) (body : List Stmt) (scope : Scope) (kV doc pm : Value) (an : Option Addr) (cda : Addr) (ct : Value) (cc : Addr)
      (ccl cl : Value) (cdd cld : Option Addr) (ccs csl : Array (Option Value)) (vs : Array Value) (file : Str) (tf : Tok),
    K.lookup fI = some ⟨oc, od, .func (PySem.W.ksFn name qual params body scope .none kV doc pm an (.ref cda) ct cc), osl⟩ ∧ PySem.W.codeIn K (.ref cda) qual = true ∧ InitBody x body ∧ InitArgs x params ∧
    (scope.kind = .function ∧ scope.isCoroutine = false ∧ scope.isGenerator = false ∧ (∀ y ∈ scope.names, y.2 ≠ .cell)) ∧
    (scope.names.lookup ("self" : Str) = some .local ∧ scope.names.lookup x = some .local ∧ scope.names.lookup ("super" : Str) = some .globalImplicit ∧ scope.names.lookup ("__class__" : Str) = some .free) ∧
    (∀ y, scope.names.lookup y = some .free → y = "__class__") ∧
    K.lookup cda = some ⟨ccl, cdd, .fields vs, ccs⟩ ∧ vs[2]? = some (.str file tf) ∧ ((P.main.file : Str) == file) = true ∧ K.lookup cc = some ⟨cl, cld, .cell (some (.ref C)), csl⟩
def xcFields : List Str := ["matrix", "vector", "number", "question", "place", "what"]
/-- C's own __init__ at work -/
def spI (K : PySem.W.Frag) (C : Addr) (x : Str) : Sp := fun vs H Q E => ∃ (a : Addr) (y : V), vs = [.ref a, y] ∧ H a = some (exo a C none) ∧ ∀ dx, H dx = none → dx ≠ a → Q .non (upd (upd H dx (exd dx [(x, y)])) a (exo a C (some dx)))
/-- the context of its body -/
def initCx (P : Program) (w : World) (K : PySem.W.Frag) (mg : Str → Option Value) (base : Heap) (x qual : Str) (scope : Scope) (f cc cda : Addr) (A : Around) (outer : List Env) (s : Shared) (H : Hp) (xe : Value → Shared → Prop) : Cx where
  prog := P
  w := w
  K := K
  mg := mg
  base := base
  A := A.deeper (PySem.W.ksEnv qual scope s.heap.objs.size f (.ref cda) cc)
  N := ["self", x]
  s_0 := s
  H_0 := H
  env := PySem.W.ksEnv qual scope s.heap.objs.size f (.ref cda) cc
  outer := outer
  stack := PySem.W.ksEnv qual scope s.heap.objs.size f (.ref cda) cc :: outer
  ex := []
  calm := true
  fn := fun _ => false
  pn := []
  xe := xe
theorem init_start {P : Program} {w : World} {K : PySem.W.Frag} {mg : Str → Option Value} {base : Heap} {x qual : Str} {scope : Scope} {f cc cda : Addr} {A : Around} {outer : List Env} {s : Shared} {H : Hp} {xe : Value → Shared → Prop} {u0 u1 : Value} {v0 v1 : V} {h₁ : Heap} {tk : Nat} {C : Addr} {cl : Value} {cld : Option Addr} {csl : Array (Option Value)}
    (hk : scope.kind = .function) (hfr : ∀ y, scope.names.lookup y = some .free → y = "__class__") (hcl : ∀ y ∈ scope.names, y.2 ≠ .cell) (hd : A.handled = none) (e0 : Env0 P w K mg base A outer s H) (hx : x ≠ "self") (hs : scope.names.lookup ("self" : Str) = some .local) (hxl : scope.names.lookup x = some .local)
    (hcell : K.lookup cc = some ⟨cl, cld, .cell (some (.ref C)), csl⟩) (r0 : RelV v0 u0) (r1 : RelV v1 u1) (hns : h₁.Ns s.heap.objs.size fun y => ((["self", x] : List Str).zip [u0, u1]).reverse.lookup y) (kp : ∀ b o, s.heap.get? b = some o → h₁.get? b = some o) :
    Inv (initCx P w K mg base x qual scope f cc cda A outer s H xe) [] [some v0, some v1] H { s with heap := h₁, toks := tk } := by
  have KX : K.In s.heap := e0.mod.kin.keeps fun b o e => (e0.bs b o e).1
  have cb : base.get? cc = some ⟨cl, cld, .cell (some (.ref C)), csl⟩ := e0.mod.kin _ _ hcell
  have cells : ∀ {y c}, ([(("__class__" : Str), cc)] : List (Str × Addr)).lookup y = some c → y = "__class__" ∧ c = cc := fun {y c} e => by
    rw [List.lookup_cons] at e
    cases hb : y == ("__class__" : Str) with
    | true =>
      rw [hb] at e
      cases e
      exact ⟨by simpa using hb, rfl⟩
    | false =>
      rw [hb] at e
      cases e
  have noA : ∀ b : Addr, b ∉ ([] : List Addr) := fun b z => by cases z
  refine ⟨⟨e0.mod, hk, rfl, rfl, Nat.le_refl _, fun y z c h1 h2 => by rw [(cells h1).1, (cells h2).1], fun y hy => ?_, fun y c z => absurd z Bool.false_ne_true, fun _ => hd, Around.frames_deeper e0.frames, .inr ⟨rfl, rfl⟩, fun b z => absurd z (noA b), e0.bs, e0.bsz, fun b _ _ => noA b, fun b z => absurd z (noA b), e0.funs, e0.frf⟩,
    rfl, e0.bare, Un.kept kp, ⟨_, hns, fun i y v h1 h2 h3 => ?_⟩, fun y c h => ?_, e0.hok.fresh (Nat.le_refl _), fun y c h => ?_, fun p hp => absurd (show p ∈ ([] : List (Addr × Obj)) from hp) (by simp), e0.hok.kept kp, rfl⟩
  · have hy : scope.names.lookup y = some .cell ∨ scope.names.lookup y = some .free := hy
    rcases hy with hy | hy
    · exact absurd rfl (hcl _ (PySem.mem_of_lookup hy))
    · rw [hfr y hy]
      exact ⟨cc, rfl⟩
  · have hN : (["self", x] : List Str)[i]? = some y := h1
    match i, hN, h2 with
    | 0, hN, h2 =>
      cases hN
      cases h2
      refine ⟨u0, r0, .inl ⟨hs, ?_⟩⟩
      have hne : ((Str.ofString "self") == x) = false := by simpa using fun z => hx z.symm
      simp [List.lookup_cons, hne]
    | 1, hN, h2 =>
      cases hN
      cases h2
      refine ⟨u1, r1, .inl ⟨hxl, ?_⟩⟩
      simp [List.lookup_cons]
    | i + 2, hN, h2 => simp at hN
  · obtain ⟨rfl, rfl⟩ := cells h
    exact ⟨_, _, kp _ _ (KX _ _ hcell), rfl⟩
  · obtain ⟨rfl, rfl⟩ := cells h
    exact (e0.bs _ _ cb).2
theorem init_bind {x name qual : Str} {params : Arguments} {body : List Stmt} {scope : Scope} {kV doc pm : Value} {an : Option Addr} {cdv ct : Value} {cc : Addr} (h : InitArgs x params) (hx : x ∈ xcFields) (us : List Value) (hl : us.length = 2) :
    bindArgs (PySem.W.ksFn name qual params body scope .none kV doc pm an cdv ct cc) ⟨us, []⟩ = pure ((["self", x] : List Str).zip us) := by
  obtain ⟨a, b, p, q⟩ := h
  match us, hl with
  | [u, v], _ =>
    simp only [xcFields, List.mem_cons, List.not_mem_nil, or_false] at hx
    rcases hx with rfl | rfl | rfl | rfl | rfl | rfl <;> rfl
section
variable {X : Cx} {pins : List (Addr × Obj)} {σ : L2.St} {H : Hp} {s : Shared}
/-- super(), in such a body -/
theorem super_at {qual : Str} {scope : Scope} {f cc cda a C : Addr} {ox : Obj} {body : List Stmt} {p0 p1 : Pos} {whole : Sem Value} {fd : FuncData} {ar : Arg} {vs : Array Value} {file : Str} {tf : Tok} {oc ccl cl : Value} {od cdd cld : Option Addr} {osl ccs csl : Array (Option Value)} {Q : Value → Shared → Prop} {L : Addr}
    (I : Inv X pins σ H s) (he : X.env = PySem.W.ksEnv qual scope L f (.ref cda) cc) (hf : X.K.lookup f = some ⟨oc, od, .func fd, osl⟩) (hp : (fd.params.posonlyargs ++ fd.params.args).head? = some ar) (har : ar.arg = "self")
    (hN : X.N[0]? = some ("self" : Str)) (hσ : σ[0]? = some (some (.ref a))) (hx : s.heap.get? a = some ox) (hxc : ox.cls = .ref C) (hnc : ∀ c, ox.data ≠ .cls c)
    (hcode : X.K.lookup cda = some ⟨ccl, cdd, .fields vs, ccs⟩) (hvs : vs[2]? = some (.str file tf)) (hfile : ((X.prog.main.file : Str) == file) = true)
    (hcell : X.K.lookup cc = some ⟨cl, cld, .cell (some (.ref C)), csl⟩) (hmro : PySem.W.mroIn X.K C (.ref C) = some true) (hsuper : X.mg "super" = none)
    (hself : scope.names.lookup ("self" : Str) = some .local) (hks : scope.names.lookup ("super" : Str) = some .globalImplicit) (hkc : scope.names.lookup ("__class__" : Str) = some .free) (hk : scope.kind = .function)
    (htop : (X.prog.main.scope.names.lookup ("super" : Str)).isSome = false)
    (h : ∀ h', h'.get? s.heap.objs.size = some (PySem.W.ks_superObj C a C) → (∀ b o, s.heap.get? b = some o → h'.get? b = some o) → Q (.ref s.heap.objs.size) { s with heap := h' }) :
    _root_.PySem.wpAt (model X.prog X.w) X.A (.func body X.env) (attributeBase (.Call (.Name "super" p0) [] [] p1) "__init__" X.env whole) Q X.xe s := by
  have KX := I.kIn
  obtain ⟨cd, hcd⟩ : ∃ cd, PySem.W.clsIn X.K C = some cd := by
    unfold PySem.W.mroIn at hmro
    cases z : PySem.W.clsIn X.K C with
    | none => rw [z] at hmro; cases hmro
    | some cd => exact ⟨cd, rfl⟩
  obtain ⟨oD, hD1, hD2⟩ : ∃ oD, s.heap.get? C = some oD ∧ oD.data = .cls cd := by
    unfold PySem.W.clsIn at hcd
    split at hcd
    · rename_i c d cd' sl ho
      cases hcd
      exact ⟨_, KX _ _ ho, rfl⟩
    · cases hcd
  obtain ⟨m, hm, hlk⟩ := I.loc
  have hvis : Vis X.env.scope "self" := by rw [he]; exact .inl hself
  obtain ⟨u, ru, lk⟩ := hlk 0 "self" (.ref a) hN hσ hvis
  have ru : u = .ref a := ru
  subst ru
  have hkL : X.env.kindOf "self" = some .local := by rw [he]; exact hself
  have hmS : m "self" = some (.ref a) := by
    rcases lk with ⟨_, q⟩ | ⟨q, _⟩
    · exact q
    · rw [hkL] at q
      rcases q with q | q <;> cases q
  obtain ⟨mb, hb1, hb2⟩ := I.mod.blt
  have hkE : X.env.scope.kind = .function := I.ok.kind
  have hksE : X.env.kindOf "super" = some .globalImplicit := by rw [he]; exact hks
  have hkcE : X.env.kindOf "__class__" = some .free := by rw [he]; exact hkc
  refine PySem.ks_wpAt_super_base (env := X.env) hksE hkcE (by decide) (by rw [he]) (KX _ _ hf) rfl hp (by rw [he]) (KX _ _ hcode) rfl hvs hfile htop ?_
  refine PySem.W.ks_loadName_global hkE hksE (Calls.loadGlobal_builtin (by rw [I.ok.glob]; exact I.mod.glob.keeps I.bk) hsuper (by rw [I.ok.blt]; exact hb1.keeps I.bk) ((hb2 "super" (by decide)).trans (show bootBuiltins ("super" : Str) = some (.type "super") by kernel_rfl)) ⟨rfl, ?_⟩)
  refine wpAny_loadName_free hkE hkcE (by rw [he]; rfl) ⟨_, KX _ _ hcell, rfl⟩ ?_
  rw [har]
  refine wpAny_loadName_local hkE hkL hm hmS ?_
  obtain ⟨hh, g, d, t, os⟩ := s
  refine PySem.ks_wpAny_isType_cls hD1 hD2 ⟨rfl, ?_⟩
  exact PySem.ks_wpAny_call_super hD1 hD2 hx hxc hnc (PySem.W.looks_mroIn KX hmro) fun h' e k => h h' e k
/-- ValueError.__init__, bound to a, called -/
theorem call_ve {a C u : Addr} {rest : List Value} {A : Around} {E : Value → Shared → Prop} {Q : Value → Shared → Prop} (q : PySem.W.excInitIn X.K C He.veBase "ValueError.__new__" = true) (I : Inv X pins σ H s) (e : H a = some (exo a C none)) (hu : s.heap.get? u = some (PySem.W.kxs_mw "ValueError.__init__" a)) (hz : rest.length ≤ sizeLine)
    (h : ∀ s', Inv X pins σ H s' → Q .none s') : wpAny (model X.prog X.w) A (call (.ref u) rest) Q E s := by
  obtain ⟨nm, N', qn, bs, bm, hdct, sn, sub, ab, col, dd, k0, k1, k2, k3, k5, hC, hT⟩ := PySem.W.excInit_of I.kIn q
  obtain ⟨t1, he⟩ := exo_at I.hok e
  have FB := PySem.F.excBase_ValueError
  obtain ⟨hh, g, d, tk, os⟩ := s
  refine wpAny_call (codeAny_of_tree ?_)
  show wpAny _ A.in1 (callAny (.ref u) ⟨rest, []⟩) _ _ _
  simp only [callAny]
  refine wpAny_bind (wpAny_load hu ?_)
  simp only [PySem.W.kxs_mw, show (Value.type "method-wrapper" == Value.type "method" || Value.type "method-wrapper" == Value.type "builtin_function_or_method" || Value.type "method-wrapper" == Value.type "method-wrapper") = true by decide, if_true]
  refine PySem.W.KFB.if_so (by decide) ?_
  refine wpAny_bind (PySem.W.check_bound_init FB.toExcCallFacts hC he rfl ?_)
  refine wpAny_bind (wpAny_pure (wpAny_pure ?_))
  refine ⟨plainId_quiet FB.init.plain _, codeAny_builtin FB.initEntry ?_⟩
  refine PySem.W.exc_init_tree (cls := .ref C) (t0 := t1) (dv := none) (c2 := .none) (c3 := .none) (b4 := .bool false) he hz fun h' k e' t' => ?_
  have J := I.write (t' := tk) (x := a) (e := a) (o := exo a C none) (by rw [e]; exact True.intro) (.inl rfl) k ⟨_, e'⟩ (exo_ok e')
  have eu : upd H a (exo a C none) = H := by
    funext b
    by_cases hb : b = a
    · rw [hb, upd_same, e]
    · rw [upd_ne hb]
  rw [eu] at J
  exact h _ J
end
theorem fld_plain {x : Str} (h : x ∈ xcFields) : (x == ("__debug__" : Str)) = false ∧ (x == ("__classdict__" : Str)) = false := by
  have : (xcFields.all fun x => !(x == ("__debug__" : Str)) && !(x == ("__classdict__" : Str))) = true := by decide +kernel
  have := List.all_eq_true.mp this x h
  simpa using this
/-- such an __init__ keeps its promise -/
theorem init_ok {B : Bd} {C fI : Addr} {x : Str} {k : Nat} (T : XcF B.K B.P C fI x) (hxF : x ∈ xcFields) (hsuper : B.mg "super" = none) :
    ∃ fd, FnOk B.P B.w B.K B.mg B.base (L2.CX B.P B.w) k fI fd ["self", x] (spI B.K C x) ∧ Binds B.K fd ["self", x] [] := by
  obtain ⟨oc, od, osl, name, qual, params, body, scope, kV, doc, pm, an, cda, ct, cc, ccl, cl, cdd, cld, ccs, csl, vs, file, tf, lk, hcd, hbody, hargs, ⟨sk, sco, sgen, hncell⟩, ⟨hself, hxl, hks, hkc⟩, hfree, hcode, hvs2, hfile, hcell⟩ := T.fn
  have hx : x ≠ "self" := by
    intro z
    subst z
    revert hxF
    decide +kernel
  refine ⟨PySem.W.ksFn name qual params body scope .none kV doc pm an (.ref cda) ct cc, ⟨fun vs H Q E h => ?_, fun A outer s H args us vs' Q E hr e0 hb r hsp => ?_⟩, .all fun us hl => init_bind hargs hxF us hl⟩
  · obtain ⟨a, y, rfl, _⟩ := h
    rfl
  · obtain ⟨a, y, rfl, ha, hq⟩ := hsp
    have KX : B.K.In s.heap := e0.mod.kin.keeps fun b o e => (e0.bs b o e).1
    have lim : s.heap.NoLimit := e0.mod.nolimit.keeps fun b o e => (e0.bs b o e).1
    cases r with
    | @cons _ u0 _ ur r0 rr =>
    cases rr with
    | @cons _ u1 _ ur2 r1 rr2 =>
    cases rr2
    refine PySem.ks_codeAny_call_defAt (fd := PySem.W.ksFn name qual params body scope .none kV doc pm an (.ref cda) ct cc) hr.depth (KX _ _ lk) rfl lim (PySem.W.codeRec_of KX hcd) rfl hb hncell (fun y hy => ?_) (fun h₁ hns hk₁ => ?_) sco sgen sk
    · have : y = (Str.ofString "self", u0) ∨ y = (x, u1) := by simpa using hy
      rcases this with rfl | rfl
      · exact hself
      · exact hxl
    · let xe : Value → Shared → Prop := fun e s' => wpAny (model B.P B.w) (A.deeper (PySem.W.ksEnv qual scope s.heap.objs.size fI (.ref cda) cc)) (leaving (PySem.W.ksEnv qual scope s.heap.objs.size fI (.ref cda) cc) e) (fun _ s'' => CR (L2.CX B.P B.w) outer B.P B.w H s Q E (.error e) s'') (fun e' s'' => CR (L2.CX B.P B.w) outer B.P B.w H s Q E (.error e') s'') s'
      have I : Inv (initCx B.P B.w B.K B.mg B.base x qual scope fI cc cda A outer s H xe) [] [some (.ref a), some y] H { s with heap := h₁, toks := s.toks + 2 } :=
        init_start sk hfree hncell hr.hd e0 hx hself hxl hcell r0 r1 hns hk₁
      obtain ⟨p0, p1, pa, p2, p3, p4, p5, p6, p7, p8, hl⟩ := hbody
      obtain ⟨t1, hexc⟩ := exo_at I.hok ha
      have hpar : ∃ ar : Arg, (params.posonlyargs ++ params.args).head? = some ar ∧ ar.arg = "self" := by
        obtain ⟨a', b', p, q⟩ := hargs
        exact ⟨_, rfl, rfl⟩
      obtain ⟨ar, har1, har2⟩ := hpar
      let Y : Cx := initCx B.P B.w B.K B.mg B.base x qual scope fI cc cda A outer s H xe
      show _root_.PySem.wpAt (model Y.prog Y.w) Y.A (.func _ Y.env) (execs _ Y.env) _ Y.xe _
      refine PySem.ks_wpAt_execs_cons (PySem.ks_wpAt_Expr_any ?_ (by
        show interactive Y.env = false
        simp [interactive, Y, initCx, sk]) rfl)
      refine PySem.ks_wpAt_MethodCall (pl := plainOf (.Call (.Name "super" p0) [] [] p1) Y.env) ?_ ?_
      · refine super_at (X := Y) (C := C) I rfl lk har1 har2 rfl rfl hexc rfl (fun c e => by cases e) hcode hvs2 hfile hcell T.mro hsuper hself hks hkc sk T.top fun h2 hso kp2 => ?_
        have I2 : Inv Y [] [some (.ref a), some y] H { s with heap := h2, toks := s.toks + 2 } := I.kept kp2
        have hexc2 := kp2 _ _ hexc
        obtain ⟨cdC, hcdC⟩ : ∃ cd, PySem.W.clsIn B.K C = some cd := by
          have := T.sup
          unfold PySem.W.ks_superIn at this
          cases z : PySem.W.clsIn B.K C with
          | none => rw [z] at this; cases this
          | some cd => exact ⟨cd, rfl⟩
        have IA : PySem.W.InstAt h2 a _ C none := ⟨hexc2, rfl, rfl, trivial⟩
        have sup := T.sup
        unfold PySem.W.ks_superIn at sup
        rw [hcdC] at sup
        refine PySem.W.kxs_getMethod (K := B.K) PySem.W.kxs_ValueError hso (PySem.W.looks_opaque I2.kIn T.opq) (l₀ := cdC.mro) (fun A Q E s k q => wpAny_bind ((PySem.W.looks_clsIn I2.kIn hcdC) A _ E s k (wpAny_pure q))) rfl I2.kIn sup
          (IA.type.andThen (PySem.W.looks_subIn I2.kIn T.subV)) (PySem.W.ks_ne I2.kIn IA hcdC) (by decide) ?_
        have I3 : Inv Y [] [some (.ref a), some y] H { s with heap := h2.push (PySem.W.kxs_mw "ValueError.__init__" a), toks := s.toks + 2 + 1 } := I2.kept fun b o e => Heap.get?_push_of_some _ e
        have hmw : (h2.push (PySem.W.kxs_mw "ValueError.__init__" a)).get? h2.objs.size = some (PySem.W.kxs_mw "ValueError.__init__" a) := Heap.get?_push_size _ rfl
        show wpAny (model Y.prog Y.w) Y.A (callWith p3 (.ref h2.objs.size) [] (backTo p3 (starEach [.Name x p2] Y.env)) []) _ Y.xe _
        refine PySem.W.kxs_callWith (i := "ValueError.__init__") (x := a) rfl (Calls.evalArgs_plain ?_)
        obtain ⟨hd1, hd2⟩ := fld_plain hxF
        have hvx : PE Y (.Name x p2) (tVar 1) := pe_var rfl (.inl hxl) hd1 hd2
        have hpa := (pa_cons hvx pa_nil).run p3 [⟨h2.objs.size, PySem.W.kxs_mw "ValueError.__init__" a⟩] _ [some (.ref a), some y] H (fun ws H' => ws = [y] ∧ H' = H) (I3.pins_of fun p hp => ?_) ⟨y, rfl, rfl, rfl⟩
        · refine wpAny_mono hpa (fun ws s4 hws => ?_) fun _ _ z => z
          obtain ⟨vs4, H4, I4, r4, rfl, rfl⟩ := hws
          have hu4 := (I4.pin (h2.objs.size, PySem.W.kxs_mw "ValueError.__init__" a) (by simp)).1
          refine ⟨hu4, call_ve (X := Y) T.over I4 ha hu4 (by show ws.length ≤ sizeLine; rw [← r4.length, sizeLine_eq]; show 1 ≤ 16777216; decide) fun s5 I5 => ?_⟩
          -- self.x = x
          have I5 : Inv Y [] [some (.ref a), some y] H4 s5 := I5.pins_of fun p hp => by cases hp
          have hs : swapsWith (.Name x p7) (some (.Attribute (.Name "self" p5) x p6)) p8.line Y.env = pure false := rfl
          have hps : PS Y (.Assign [.Attribute (.Name "self" p5) x p6] (.Name x p7) p8) (tOst Y.K x (tVar 0) (tVar 1)) := ps_ost (pe_var rfl (.inl hself) (by decide) (by decide)) (pe_var rfl (.inl hxl) hd1 hd2) hs
          refine PySem.wpAt_of_wpAny ?_
          refine wpAny_mono ((pss_one hps).run [] s5 _ H4 { nx := fun _ H' => Q .non H', rt := Q } I5 ⟨y, rfl, .ref a, rfl, a, C, rfl, T.oex, T.noF, .inl ⟨ha, fun dx n ne => hq dx n ne⟩⟩) (fun fl s6 hs6 => ?_) fun _ _ z => z
          cases fl with
          | next =>
            obtain ⟨σ', H', J, q⟩ := hs6
            exact ⟨.non, H', J.os, J.bare, J.base, J.hok, rfl, q⟩
          | ret u =>
            obtain ⟨v, σ', H', J, rv, q⟩ := hs6
            exact ⟨v, H', J.os, J.bare, J.base, J.hok, rv, q⟩
          | brk =>
            obtain ⟨_, _, _, q⟩ := hs6
            exact False.elim q
          | cont =>
            obtain ⟨_, _, _, q⟩ := hs6
            exact False.elim q
        · have hp' : p = (h2.objs.size, PySem.W.kxs_mw "ValueError.__init__" a) := by simpa using hp
          subst hp'
          refine ⟨hmw, I2.hok.fresh (Nat.le_refl _), Nat.ne_of_gt I2.lt, I2.nofs (Nat.le_refl _), fun v z => by cases z⟩
      · show (attributeBase (.Call (.Name "super" p0) [] [] p1) "__init__" Y.env (eval (.Call (.Name "super" p0) [] [] p1) Y.env) >>= fun ov => standAt pa.atName >>= fun _ => methodCall (.Call (.Name "super" p0) [] [] p1) "__init__" pa p3 Y.env ov 1 (backTo p3 (starEach [.Name x p2] Y.env)) []) = _
        simp only [mcall_line (show methodCallForm 1 (backTo p3 (starEach [.Name x p2] Y.env)) [] = true from rfl) hl]
/-- such a class may be raised -/
theorem raise_ok {B : Bd} {C fI : Addr} {c : Str} {k : Nat} (T : XcF B.K B.P C fI (fld c)) (hxF : fld c ∈ xcFields) (hsuper : B.mg "super" = none) (hm : B.mg c = some (.ref C)) (hdb : (c == ("__debug__" : Str)) = false) : RaiseOk B (k + 1) c := by
  intro X W N fn sc tl ct G hG ρ S e m p pos pos' he hg hu r S' h σ H F A h0 hs E hE
  obtain ⟨fd, F1, hb⟩ := init_ok (k := k) T hxF hsuper
  have on := ct.on
  have F1' : FnOk X.prog X.w X.K X.mg X.base (L2.CX X.prog X.w) k fI fd ["self", fld c] (spI B.K C (fld c)) := by
    rw [on.prog, on.w, on.K, on.mg, on.base]; exact F1
  refine SmS.of (ps_raise ct.calm ct.tk (pmk_oex (dvs := []) (ds := []) (by rw [on.K]; exact T.oex) (by rw [on.K]; exact T.ini) (by rw [on.K]; exact T.tyI) F1' ct.room (by rw [on.K]; exact hb) .nil
    (fun pins' σ' H' s' e' s'' I' cx => by
      obtain ⟨_, _, _, _, _, _, _, _, _, _, _, _, z⟩ := cx
      exact z.elim) hg (by rw [on.mg]; exact hm) (pa_cons smE pa_nil (star_cons hu)) hdb (star_cons hu) rfl)) ?_
  show SmE X e σ H _
  rcases bnd_some h with ⟨c', d, e1, e2⟩ | ⟨d, S1, e1, e2⟩
  · subst e2
    exact he _ _ e1 σ H F A h0 hs _ hE
  · cases e2
    refine he _ _ e1 σ H F A h0 hs _ fun v F1 A1 H1 q0 g q1 => ⟨by show 1 ≤ 1000; decide, fun a ha => ?_⟩
    refine ⟨a, v, rfl, upd_same, fun dx hdx hne => ⟨rfl, dx, [(fld c, v)], upd_same, ?_, ?_, ?_⟩⟩
    · rw [upd_ne hne, upd_same]
    · rw [upd_ne hne] at hdx
      exact hdx
    · rw [upd_ne hne] at hdx
      have eH : upd (del (upd (upd (upd H1 a (exo a C none)) dx (exd dx [(fld c, v)])) a (exo a C (some dx))) a) dx (.xd [(fld c, v)]) = upd H1 dx (.xd [(fld c, v)]) := by
        funext b
        by_cases hb : b = dx
        · rw [hb, upd_same, upd_same]
        · rw [upd_ne hb, upd_ne hb]
          by_cases hba : b = a
          · rw [hba, del_same, ha]
          · rw [del_ne hba, upd_ne hba, upd_ne hb, upd_ne hba]
      rw [eH]
      obtain ⟨k0, kg⟩ := q0.frz (o := .xd [(fld c, v)]) hdx (by intro ps z; cases z)
      exact hE C dx v _ A1 _ σ rfl k0 (g.trans kg) (by rw [hG]; exact hm) upd_same (q1.gr kg)
end Z


set_option Elab.async false
set_option linter.all false
set_option maxRecDepth 100000
set_option maxHeartbeats 4000000
namespace Z
open PySem PySem.Spec PyProof.Rows L2
open He (ga ma)

/-! ## what the head tells: classes of errors -/
theorem oexB_ok {K : PySem.W.Frag} {C : Addr} (h : oexB K C = true) : OexC K C := by
  obtain ⟨h0, h⟩ := ands h
  obtain ⟨h1, h⟩ := ands h
  obtain ⟨h2, h⟩ := ands h
  obtain ⟨h3, h4⟩ := ands h
  refine ⟨?_, of_decide_eq_true h1, of_decide_eq_true h2, of_decide_eq_true h3, h4⟩
  split at h0
  · rename_i ty dd cd sl ho
    obtain ⟨g1, h0⟩ := ands h0
    split at h0
    · rename_i C' bm k0 k1 k2 k3 n k5 hm hs
      obtain ⟨g2, h0⟩ := ands h0
      obtain ⟨g3, h0⟩ := ands h0
      obtain ⟨g4, h0⟩ := ands h0
      obtain ⟨g5, g6⟩ := ands h0
      have e1 := of_decide_eq_true g1
      have e2 := of_decide_eq_true g2
      have e3 := of_decide_eq_true g3
      subst e1 e2 e3
      obtain ⟨nm, bs, mro, ns, qn, hd, sn, sub, ab, col, del⟩ := cd
      simp only at hm g4 g5
      subst hm
      have e4 : del = false := by simpa using g4
      subst e4
      have e5 : hd = true := g5
      subst e5
      obtain ⟨l⟩ := sl
      have e6 : l = [k0, k1, k2, k3, some (.builtin "ValueError.__new__"), k5] := hs
      subst e6
      exact ⟨nm, qn, ns, bs, bm, sn, sub, ab, col, dd, k0, k1, k2, k3, k5, ho, g6⟩
    · cases h0
  · cases h0
theorem bodyB_ok {x : Str} {b : List Stmt} (h : bodyB x b = true) : InitBody x b := by
  unfold bodyB at h
  split at h
  · obtain ⟨h1, h⟩ := ands h
    obtain ⟨h2, h⟩ := ands h
    obtain ⟨h3, h⟩ := ands h
    obtain ⟨h4, h⟩ := ands h
    obtain ⟨h5, h⟩ := ands h
    obtain ⟨h6, h7⟩ := ands h
    have e1 := of_decide_eq_true h1
    have e2 := of_decide_eq_true h2
    have e3 := of_decide_eq_true h3
    have e4 := of_decide_eq_true h4
    have e5 := of_decide_eq_true h5
    have e6 := of_decide_eq_true h6
    subst e1 e2 e3 e4 e5
    rw [e6]
    exact .mk _ _ _ _ _ _ _ _ _ _ h7
  · cases h
theorem argsIB_ok {x : Str} {a : Arguments} (h : argsIB x a = true) : InitArgs x a := by
  unfold argsIB at h
  split at h
  · obtain ⟨h1, h2⟩ := ands h
    have e1 := of_decide_eq_true h1
    have e2 := of_decide_eq_true h2
    subst e1 e2
    exact .mk _ _ _ _
  · cases h
/-- one such class -/
theorem initB_ok {P : Program} {K : PySem.W.Frag} {C fI : Addr} {x : Str} (h : initB P K C fI x = true) :
    ∃ (oc : Value) (od : Option Addr) (osl : Array (Option Value)) (name qual : Str) (params : Arguments) (body : List Stmt) (scope : Scope) (kV doc pm : Value) (an : Option Addr) (cda : Addr) (ct : Value) (cc : Addr)
      (ccl cl : Value) (cdd cld : Option Addr) (ccs csl : Array (Option Value)) (vs : Array Value) (file : Str) (tf : Tok),
    K.lookup fI = some ⟨oc, od, .func (PySem.W.ksFn name qual params body scope .none kV doc pm an (.ref cda) ct cc), osl⟩ ∧ PySem.W.codeIn K (.ref cda) qual = true ∧ InitBody x body ∧ InitArgs x params ∧
    (scope.kind = .function ∧ scope.isCoroutine = false ∧ scope.isGenerator = false ∧ (∀ y ∈ scope.names, y.2 ≠ .cell)) ∧
    (scope.names.lookup ("self" : Str) = some .local ∧ scope.names.lookup x = some .local ∧ scope.names.lookup ("super" : Str) = some .globalImplicit ∧ scope.names.lookup ("__class__" : Str) = some .free) ∧
    (∀ y, scope.names.lookup y = some .free → y = "__class__") ∧
    K.lookup cda = some ⟨ccl, cdd, .fields vs, ccs⟩ ∧ vs[2]? = some (.str file tf) ∧ ((P.main.file : Str) == file) = true ∧ K.lookup cc = some ⟨cl, cld, .cell (some (.ref C)), csl⟩ := by
  unfold initB at h
  split at h
  · rename_i oc od fd osl ho
    unfold initFdB at h
    split at h
    · rename_i name qual params body scope gl cn cc kV doc pm an cda ct bl
      obtain ⟨h1, h⟩ := ands h
      obtain ⟨h2, h⟩ := ands h
      obtain ⟨h3, h⟩ := ands h
      obtain ⟨h4, h⟩ := ands h
      obtain ⟨h5, h⟩ := ands h
      obtain ⟨h6, h⟩ := ands h
      obtain ⟨h7, h⟩ := ands h
      obtain ⟨h8, h9⟩ := ands h
      have e1 := of_decide_eq_true h1
      have e2 := of_decide_eq_true h2
      have e3 := of_decide_eq_true h3
      subst e1 e2 e3
      unfold scopeIB at h7
      simp only [Bool.and_eq_true, Bool.not_eq_true', decide_eq_true_eq, List.all_eq_true, decide_eq_false_iff_not, Bool.or_eq_true] at h7
      obtain ⟨s1, s2, s3, s4, s5, s6, s7, s8, s9⟩ := h7
      split at h8
      · rename_i ccl cdd vs ccs hcd
        split at h8
        · rename_i file tf hv
          split at h9
          · rename_i cl cld D csl hcl
            have e4 := of_decide_eq_true h9
            subst e4
            exact ⟨oc, od, osl, name, qual, params, body, scope, kV, doc, pm, an, cda, ct, cc, ccl, cl, cdd, cld, ccs, csl, vs, file, tf, ho, h4, bodyB_ok h5, argsIB_ok h6, ⟨s1, s2, s3, s4⟩, ⟨s5, s6, s7, s8⟩, fun y hy => (s9 _ (PySem.mem_of_lookup hy)).resolve_left fun z => z rfl, hcd, hv, h8, hcl⟩
          · cases h9
        · cases h8
      · cases h8
    · cases h
  · cases h
theorem xcB_ok {P : Program} {K : PySem.W.Frag} {c : Str} (h : xcB P K c = true) : XcF K P (ga K c) (ma K (ga K c) "__init__") (fld c) ∧ PySem.W.nsIn K mainGlobals c = some (some (.ref (ga K c))) := by
  obtain ⟨h0, h⟩ := ands h
  obtain ⟨h1, h⟩ := ands h
  obtain ⟨h2, h⟩ := ands h
  obtain ⟨h3, h⟩ := ands h
  obtain ⟨h4, h⟩ := ands h
  obtain ⟨h5, h⟩ := ands h
  obtain ⟨h6, h⟩ := ands h
  obtain ⟨h7, h⟩ := ands h
  obtain ⟨h8, h⟩ := ands h
  obtain ⟨h9, h⟩ := ands h
  obtain ⟨h10, h11⟩ := ands h
  exact ⟨⟨oexB_ok h1, h2, of_decide_eq_true h3, of_decide_eq_true h4, of_decide_eq_true h5, of_decide_eq_true h6, of_decide_eq_true h7, of_decide_eq_true h8, of_decide_eq_true h9, by simpa using h10, initB_ok h11⟩, He.eqO_ok h0⟩
/-- what isinstance asks -/
theorem isB_ok {B : Bd} {c : Str} (h : isB B.K c = true) (hm : B.mg c = some (.ref (ga B.K c))) : IsC B c (ga B.K c) := by
  obtain ⟨h0, h⟩ := ands h
  obtain ⟨h1, h⟩ := ands h
  obtain ⟨h2, h⟩ := ands h
  obtain ⟨h3, h⟩ := ands h
  obtain ⟨h4, h⟩ := ands h
  obtain ⟨h5, h⟩ := ands h
  obtain ⟨h6, h⟩ := ands h
  obtain ⟨h7, h⟩ := ands h
  obtain ⟨h8, h9⟩ := ands h
  exact ⟨hm, ⟨of_decide_eq_true h0, of_decide_eq_true h1, of_decide_eq_true h2, h3, of_decide_eq_true h4, of_decide_eq_true h5, of_decide_eq_true h6, of_decide_eq_true h7⟩, ⟨of_decide_eq_true h0, of_decide_eq_true h1, of_decide_eq_true h2, h3⟩, of_decide_eq_true h8, h9⟩
/-! ### told's text -/
def toldIfB (c : Str) : Stmt → Bool
  | .If (.Call (.Name n1 _) [.Name n2 _, .Name n3 _] [] _) [.Expr (.Call (.Attribute (.Name n4 _) n5 p6) [.Tuple [.Constant (.str s) _ _, .Attribute (.Name n6 _) n7 _] _ _] [] q2) _] [] _ =>
    decide (n1 = "isinstance") && (decide (n2 = "e") && (decide (n3 = c) && (decide (n4 = "told") && (decide (n5 = "append") && (decide (s = c) && (decide (n6 = "e") && (decide (n7 = fld c) && (p6.endLine == q2.line))))))))
  | _ => false
theorem toldIfB_ok {c : Str} {st : Stmt} (h : toldIfB c st = true) : ToldIf c st := by
  unfold toldIfB at h
  split at h
  · obtain ⟨h1, h⟩ := ands h
    obtain ⟨h2, h⟩ := ands h
    obtain ⟨h3, h⟩ := ands h
    obtain ⟨h4, h⟩ := ands h
    obtain ⟨h5, h⟩ := ands h
    obtain ⟨h6, h⟩ := ands h
    obtain ⟨h7, h⟩ := ands h
    obtain ⟨h8, h9⟩ := ands h
    have e1 := of_decide_eq_true h1
    have e2 := of_decide_eq_true h2
    have e3 := of_decide_eq_true h3
    have e4 := of_decide_eq_true h4
    have e5 := of_decide_eq_true h5
    have e6 := of_decide_eq_true h6
    have e7 := of_decide_eq_true h7
    have e8 := of_decide_eq_true h8
    subst e1 e2 e3 e4 e5 e7
    rw [e6, e8]
    exact .mk _ _ _ _ _ _ _ _ _ _ _ _ _ _ _ h9
  · cases h
def toldEndB : List Stmt → Bool
  | [.Return (some (.Tuple [.Constant (.str s) _ _, .Name n _] _ _)) _] => decide (s = "raised") && decide (n = "told")
  | _ => false
def toldIfsB : List Str → List Stmt → Bool
  | [], r => toldEndB r
  | c :: cs, st :: r => toldIfB c st && toldIfsB cs r
  | _, [] => false
theorem toldIfsB_ok : ∀ {cs : List Str} {sts : List Stmt}, toldIfsB cs sts = true → ∃ k1 p1 p2 k2 p3 p4, ToldIfs cs sts [.Return (some (.Tuple [.Constant (.str "raised") k1 p1, .Name "told" p2] k2 p3)) p4]
  | [], r, h => by
    simp only [toldIfsB] at h
    unfold toldEndB at h
    split at h
    · obtain ⟨h1, h2⟩ := ands h
      have e1 := of_decide_eq_true h1
      have e2 := of_decide_eq_true h2
      subst e1 e2
      exact ⟨_, _, _, _, _, _, .nil _⟩
    · cases h
  | c :: cs, st :: r, h => by
    simp only [toldIfsB] at h
    obtain ⟨h1, h2⟩ := ands h
    obtain ⟨k1, p1, p2, k2, p3, p4, t⟩ := toldIfsB_ok h2
    exact ⟨k1, p1, p2, k2, p3, p4, .cons (toldIfB_ok h1) t⟩
  | c :: cs, [], h => by simp [toldIfsB] at h
def toldB : List Stmt → Bool
  | [.Try [.Assign [.Name t1 _] (.Call (.Name c1 _) [] [] _) _] [.ExceptHandler (some (.Name x1 _)) (some e1) (.Assign [.Name t2 _] (.List [] _) _ :: sts) _] [] [] _,
      .Return (some (.Tuple [.Constant (.str s) _ _, .Name t3 _] _ q8)) q8'] => decide (t1 = "told") && (decide (c1 = "call") && (decide (x1 = "CoreError") && (decide (e1 = "e") && (decide (t2 = "told") && (decide (s = "value") && (decide (t3 = "told") && toldIfsB excL sts))))))
  | _ => false
theorem toldB_ok {b : List Stmt} (h : toldB b = true) : ToldBody b := by
  unfold toldB at h
  split at h
  · obtain ⟨h1, h⟩ := ands h
    obtain ⟨h2, h⟩ := ands h
    obtain ⟨h3, h⟩ := ands h
    obtain ⟨h4, h⟩ := ands h
    obtain ⟨h5, h⟩ := ands h
    obtain ⟨h6, h⟩ := ands h
    obtain ⟨h7, h8⟩ := ands h
    have e1 := of_decide_eq_true h1
    have e2 := of_decide_eq_true h2
    have e3 := of_decide_eq_true h3
    have e4 := of_decide_eq_true h4
    have e5 := of_decide_eq_true h5
    have e6 := of_decide_eq_true h6
    have e7 := of_decide_eq_true h7
    subst e1 e2 e3 e4 e5 e6 e7
    obtain ⟨k1, p1, p2, k2, p3, p4, t⟩ := toldIfsB_ok h8
    exact .mk _ _ _ _ _ _ _ _ _ _ _ _ _ _ _ _ _ _ _ _ _ _ _ t
  · cases h
end Z


set_option Elab.async false
set_option linter.all false
set_option maxRecDepth 100000
set_option maxHeartbeats 4000000
namespace Z
open PySem PySem.Spec PyProof.Rows L2
open He (ga ma Fa DefD Defn)

/-! ## the head's facts -/
/-! ### the ground of a law -/
def lamTab (tf : List Defn) (K : PySem.W.Frag) : List (Addr × Str) := tf.map fun p => ((He.cT K p).2, (p.1 ++ ".<locals>.") ++ "<lambda>")
/-- a def of the module, on the ground -/
def DefAt (B : Bd) (x : Str) (st : Stmt) (ps : List Str) (lam : Bool) : Prop := ∃ (a : Addr) (fd : FuncData), Fun B.K x x st a fd ∧ B.mg x = some (.ref a) ∧ L2.Binds B.K fd ps [] ∧
  (lam = true → ∃ c P, fd.code = .ref c ∧ LamX.TabB B.base B.mg c P ∧ (P, (x ++ ".<locals>.") ++ "<lambda>") ∈ B.T ∧ ∀ p ∈ B.T, p.1 = P → p.2 = (x ++ ".<locals>.") ++ "<lambda>")
theorem fun_ofD {K : PySem.W.Frag} {x qual : Str} {st : Stmt} {f : Addr} {fd : FuncData} {kws : List (Str × V)} (F : FunD K x qual (defArgs st) (defBody st) (defScope st) [] kws f fd) : Fun K x qual st f fd := by
  obtain ⟨oc, od, dV, kV, doc, pm, an, cdv, ct, osl, e, l, c, hd, _⟩ := F.ex
  rcases hd with ⟨_, z⟩ | ⟨z, _⟩
  · subst z
    exact ⟨⟨oc, od, kV, doc, pm, an, cdv, ct, osl, e, l, c⟩, F.kp⟩
  · exact absurd rfl z
/-- a def's datum -/
theorem nodup_of_map {α β : Type} {f : α → β} : ∀ {l : List α} {a b : α}, (l.map f).Nodup → a ∈ l → b ∈ l → f a = f b → a = b
  | x :: l, a, b, nd, ha, hb, e => by
    rw [List.map_cons, List.nodup_cons] at nd
    rcases List.mem_cons.mp ha with h1 | h1
    · rcases List.mem_cons.mp hb with h2 | h2
      · rw [h1, h2]
      · exact absurd (by rw [← h1, e]; exact List.mem_map_of_mem h2) nd.1
    · rcases List.mem_cons.mp hb with h2 | h2
      · exact absurd (by rw [← h2, ← e]; exact List.mem_map_of_mem h1) nd.1
      · exact nodup_of_map nd.2 h1 h2 e
theorem defAt {fa : List Fa} {fn : List DefD} {tf : List Defn} {ex : PySem.W.Frag → Bool} {h : Heap} {B : Bd} (c : SaysZ fa fn tf ex h B.K) (X : B.K.In h) (hG : h.Ns mainGlobals B.mg) (hT : B.T = lamTab tf B.K) (htab : ∀ p ∈ tf, LamX.TabB B.base B.mg (He.cT B.K p).1 (He.cT B.K p).2)
    {x : Str} {st : Stmt} {ps : List Str} {lam : Bool} (hf : Fa.glo x ∈ fa) (hd : dOf x st ∈ fn) (hlam : lam = true → (x, none) ∈ tf)
    (hbind : ∀ (kV doc pm : Value) (an : Option Addr) (cdv ct : Value) (us : List Value), us.length = ps.length → bindArgs (PySem.W.fnOf x x (defArgs st) (defBody st) (defScope st) .none kV doc pm an cdv ct) ⟨us, []⟩ = pure (ps.zip us)) : DefAt B x st ps lam := by
  obtain ⟨fd, F⟩ := c.d.defs hd
  have hm : B.mg x = some (.ref (ga B.K x)) := He.glo_ok X hG (c.d.facts hf)
  have F' : Fun B.K x x st (ga B.K x) fd := fun_ofD F
  refine ⟨ga B.K x, fd, F', hm, F'.binds hbind, fun hl => ?_⟩
  have htf := hlam hl
  obtain ⟨oc, od, kV, doc, pm, an, cdv, ct, osl, rfl, lk, hcd⟩ := F'.ex
  obtain ⟨cc, rfl⟩ := He.codeIn_ref hcd
  have hc : He.codeOf B.K (x, none) = cc := He.codeOf_eq (p := (x, none)) lk rfl
  refine ⟨cc, (He.cT B.K (x, none)).2, rfl, ?_, ?_, fun p hp e => ?_⟩
  · have := htab _ htf
    rw [show (He.cT B.K (x, none)).1 = cc from hc] at this
    exact this
  · rw [hT]
    exact List.mem_map_of_mem (f := fun p : Defn => ((He.cT B.K p).2, (p.1 ++ ".<locals>.") ++ "<lambda>")) htf
  · rw [hT] at hp
    obtain ⟨q, hq, rfl⟩ := List.mem_map.mp hp
    have := nodup_of_map (of_decide_eq_true c.apart) hq htf e
    subst this
    rfl
/-- a module's int -/
theorem globAt {B : Bd} {h : Heap} {x : Str} {i : Int} (X : B.K.In h) (hG : h.Ns mainGlobals B.mg) (c : (Fa.int x i).ok B.K = true) : ∃ u v, B.mg x = some u ∧ RelV v u ∧ ∀ F A, IsD B F A (.int i) v := by
  obtain ⟨t, e⟩ := He.int_ok X hG c
  exact ⟨_, .int i, e, ⟨t, rfl⟩, fun F A => isD_int.mpr rfl⟩
theorem toldAt {P : Program} {fa : List Fa} {fn : List DefD} {tf : List Defn} {h : Heap} {B : Bd} (c : SaysZ fa fn tf (exB P) h B.K) (X : B.K.In h) (hG : h.Ns mainGlobals B.mg) {st : Stmt} (hd : DefAt B "_law_told" st ["call"] false) (hi : B.mg "isinstance" = none)
    (S : FnScope ["call", "told", "e"] ["call"] (defScope st)) (hb : toldB (defBody st) = true) (h1 : ((["isinstance", "CoreError"] : List Str) ++ excL).all (fun y => decide ((defScope st).names.lookup y = some .globalImplicit)) = true)
    (h2 : (["call", "told", "e"] : List Str).all (fun y => decide ((defScope st).names.lookup y = some .local)) = true) : ToldOk B := by
  obtain ⟨e1, e⟩ := ands c.more
  obtain ⟨e2, e⟩ := ands e
  obtain ⟨e3, e4⟩ := ands e
  have hx : ∀ c' ∈ excL, B.mg c' = some (.ref (ga B.K c')) ∧ isB B.K c' = true := fun c' hc' => by
    obtain ⟨z1, z2⟩ := ands (List.all_eq_true.mp e1 c' hc')
    exact ⟨PySem.W.mg_of X hG (xcB_ok z1).2, z2⟩
  have hu : ∀ c' ∈ excL, ∀ C, B.mg c' = some (.ref C) → C = ga B.K c' := fun c' hc' C hC => by
    rw [(hx c' hc').1] at hC
    cases hC
    rfl
  refine ⟨⟨ga B.K "CoreError", PySem.W.mg_of X hG (He.eqO_ok e3), fun c' hc' D hD => ?_⟩, fun c' hc' => ⟨_, isB_ok (hx c' hc').2 (hx c' hc').1⟩, fun c1 h1' c2 h2' C D hC hD => ?_, hi, ?_⟩
  · rw [hu c' hc' D hD]
    exact of_decide_eq_true (List.all_eq_true.mp e4 c' hc')
  · rw [hu c1 h1' C hC, hu c2 h2' D hD]
    exact of_decide_eq_true (List.all_eq_true.mp (List.all_eq_true.mp e2 c1 h1') c2 h2')
  · obtain ⟨a, fd, F, hm, hbd, _⟩ := hd
    exact ⟨a, fd, st, F, hm, hbd, S, toldB_ok hb, fun y hy => of_decide_eq_true (List.all_eq_true.mp h1 y hy), fun y hy => of_decide_eq_true (List.all_eq_true.mp h2 y hy)⟩
theorem fld_ok {c : Str} (h : c ∈ excL) : fld c ∈ xcFields := by
  have : (excL.all fun c => decide (fld c ∈ xcFields)) = true := by decide +kernel
  exact of_decide_eq_true (List.all_eq_true.mp this c h)
theorem raiseAt {P : Program} {fa : List Fa} {fn : List DefD} {tf : List Defn} {h : Heap} {B : Bd} (hP : P = B.P) (c : SaysZ fa fn tf (exB P) h B.K) (X : B.K.In h) (hG : h.Ns mainGlobals B.mg) (hs : B.mg "super" = none) {x : Str} (hx : x ∈ excL) (k : Nat) : RaiseOk B (k + 1) x := by
  subst hP
  obtain ⟨e1, _⟩ := ands c.more
  obtain ⟨z1, z2⟩ := ands (List.all_eq_true.mp e1 x hx)
  obtain ⟨T, hn⟩ := xcB_ok z1
  exact raise_ok T (fld_ok hx) hs (PySem.W.mg_of X hG hn) (exc_dbg hx)
theorem RaiseOk.at1 {B : Bd} {x : Str} (h : ∀ k, RaiseOk B (k + 1) x) {k : Nat} (hk : 1 ≤ k) : RaiseOk B k x := by
  obtain ⟨j, rfl⟩ : ∃ j, k = j + 1 := ⟨k - 1, by omega⟩
  exact h j
/-- the law's end -/
theorem lawAt {l : PySem.W.OpenLaw} {w : World} {K : PySem.W.Frag} {k n : Nat} {x : Str} {mg : Str → Option Value} {fa : List Fa} {fn : List DefD} {tf : List Defn} {ex : PySem.W.Frag → Bool} {h : Heap} {lawF : Fn} {name : Str} {st : Stmt} {f : Addr}
    (c : SaysZ fa fn tf ex h K) (X : K.In h) (hG : h.Ns mainGlobals mg) (hfa : mg name = some (.ref f)) (hf : Fa.glo name ∈ fa) (hd : dOf name st ∈ fn)
    (hbind : ∀ (kV doc pm : Value) (an : Option Addr) (cdv ct : Value) (us : List Value), us.length = ([x] : List Str).length → bindArgs (PySem.W.fnOf name name (defArgs st) (defBody st) (defScope st) .none kV doc pm an cdv ct) ⟨us, []⟩ = pure (([x] : List Str).zip us))
    (plain : ∀ ns : List Int, ns.length ≤ n → (∀ z ∈ ns, Builtin.Int.intBits z ≤ 1048576) → lawF [.scr ns] [] = some (.ok (.bl true), []))
    (links : ∀ base : Heap, (∀ p ∈ tf, LamX.TabB base mg (He.cT K p).1 (He.cT K p).2) → ∀ fd, Fun K name name st f fd → FnOk l.prog w K mg base (L2.CX l.prog w) k f fd [x] (FnSp ⟨K, mg, lamTab tf K, l.prog, w, base⟩ 1 lawF)) : LamX.LawAtS l w K (L2.CX l.prog w) k n x mg f h := by
  obtain ⟨fd, F⟩ := c.d.defs hd
  have hm : mg name = some (.ref (ga K name)) := He.glo_ok X hG (c.d.facts hf)
  rw [hfa] at hm
  cases hm
  have F' : Fun K name name st (ga K name) fd := fun_ofD F
  refine ⟨fd, tf.map (He.cT K), fun vs H Q E => ∃ (a : Addr) (ns : List Int), vs = [.ref a] ∧ ns.length ≤ n ∧ (∀ z ∈ ns, Builtin.Int.intBits z ≤ 1048576) ∧ (∀ p ∈ tf.map (He.cT K), H p.2 = some (.tbl #[])) ∧ SqL K H a (ns.map V.int) ∧ ∀ H', Q (.bl true) H', fun p hp => ?_, fun p hp => ?_, fun p hp => ?_, fun s u => ?_, fun H a ns h1 h2 h3 h4 => ⟨a, ns, rfl, h1, h2, h3, h4, fun _ => rfl⟩, fun base KB GB tabs => ?_⟩
  · obtain ⟨q, hq, rfl⟩ := List.mem_map.mp hp
    exact c.empty q hq
  · obtain ⟨q, hq, rfl⟩ := List.mem_map.mp hp
    exact c.out q hq
  · obtain ⟨q, hq, rfl⟩ := List.mem_map.mp hp
    exact PySem.W.codeHd_of_K X (c.hd q hq)
  · obtain ⟨oc, od, kV, doc, pm, an, cdv, ct, osl, rfl, lk, hcd⟩ := F'.ex
    exact .of_eq (hbind kV doc pm an cdv ct [u] rfl)
  · refine (links base (fun p hp => tabs _ (List.mem_map_of_mem hp)) fd F').imp fun vs H Q E h => ?_
    obtain ⟨a, ns, rfl, h1, h2, h3, h4, h5⟩ := h
    refine ⟨fun _ => none, [.scr ns], [], fun b => if b = a then (match H a with | some (.tbl _) => none | o => o) else none, [], .ok (.bl true), [], ?_, ?_, rfl, plain ns h1 h2, fun v F' A' H' _ _ hv => ?_⟩
    · refine ⟨fun b o e => ?_, fun b hb => (by cases hb), List.nodup_nil, rfl, fun k p o e => (by simp at e), fun b ps e => ?_, fun p hp => ?_, fun b o e => (by cases e), fun b ps e => (by cases e)⟩
      · by_cases hb : b = a
        · subst hb
          simp only [if_true] at e
          split at e
          · cases e
          · exact e
        · rw [if_neg hb] at e; cases e
      · by_cases hb : b = a
        · subst hb
          simp only [if_true] at e
          split at e
          · cases e
          · rename_i hno
            exact hno ps e
        · rw [if_neg hb] at e; cases e
      · have hp' : p ∈ lamTab tf K := hp
        unfold lamTab at hp'
        obtain ⟨q, hq, rfl⟩ := List.mem_map.mp hp'
        exact LamX.TabS.nil (h3 _ (List.mem_map_of_mem hq))
    · refine isDs_cons.mpr ⟨.ref a, [], rfl, ?_, isDs_nil.mpr rfl⟩
      simp only [IsD]
      refine ⟨a, rfl, ?_⟩
      rcases h4 with (h4 | ⟨o, h4⟩) | h4
      · exact .inl (.inl (by simp [h4]))
      · exact .inl (.inr ⟨o, by simp [h4]⟩)
      · exact .inr h4
    · rw [isD_bl] at hv
      subst hv
      exact h5 H'
end Z


set_option Elab.async false
set_option linter.all false
set_option maxRecDepth 100000
set_option maxHeartbeats 0
namespace Z
open PySem PySem.Spec PyProof.Rows L2

def nm__law_begin : List Str := ["script", "cell"]
def ir__law_begin : ISs := (.cons (.ret (.lst true (.cons (.lc false [("cell", 1)] (.nm 1) (.seq (.sl false (.var 0) .no (.yes (.int 63)))) .no (.bi .int (.cons (.var 1) .nil))) (.cons (.int 0) (.cons (.int 0) (.cons (.bin false .Add (.bi .len (.cons (.var 0) .nil)) (.int 7)) .nil))))))
  .nil)
def fn__law_begin : Fn := keepF fun ds S => runB ir__law_begin (startR nm__law_begin ds) S

theorem mt__law_begin : mB nm__law_begin (fun _ => true) (defScope (top 39)) ir__law_begin (defBody (top 39)) = true := by decide +kernel
def nm__law_draw : List Str := ["source", "many", "told", "cell", "mixed"]
def ir__law_draw : ISs := (.cons (.ife (.cmp .Gt (.ix (.var 0) (.int 2)) (.int 0)) (.cons (.asg (.nm 2) (.bin false .Mod (.bi .int (.cons (.ix (.var 0) (.int 2)) .nil)) (.var 1)))
  (.cons (.sub (.bin false .FloorDiv (.ix (.var 0) (.int 2)) (.var 1)) (.var 0) (.int 2))
  (.cons (.ret (.var 2))
  .nil))) .nil)
  (.cons (.asg (.nm 3) (.int 0))
  (.cons (.ife (.cmp .Lt (.ix (.var 0) (.int 1)) (.bi .len (.cons (.ix (.var 0) (.int 0)) .nil))) (.cons (.asg (.nm 3) (.ix (.ix (.var 0) (.int 0)) (.ix (.var 0) (.int 1))))
  .nil) .nil)
  (.cons (.sub (.bin false .Add (.ix (.var 0) (.int 1)) (.int 1)) (.var 0) (.int 1))
  (.cons (.ife (.cmp .GtE (.var 3) (.int 1000000000000000000)) (.cons (.sub (.bin false .FloorDiv (.var 3) (.var 1)) (.var 0) (.int 2))
  (.cons (.ret (.bin false .Mod (.bi .int (.cons (.var 3) .nil)) (.var 1)))
  .nil)) .nil)
  (.cons (.asg (.nm 4) (.bin false .Mod (.bi .int (.cons (.bin false .Add (.bin false .Add (.ix (.var 0) (.int 3)) (.bin false .Mult (.var 3) (.int 40503))) (.bin false .Mult (.ix (.var 0) (.int 1)) (.int 7919))) .nil)) (.int 2305843009213693951)))
  (.cons (.asg (.nm 4) (.bin false .Mod (.bi .int (.cons (.bin false .Add (.bin false .Mult (.var 4) (.var 4)) (.int 1442695040888963)) .nil)) (.int 2305843009213693951)))
  (.cons (.asg (.nm 4) (.bin false .Mod (.bi .int (.cons (.bin false .Add (.bin false .Mult (.var 4) (.var 4)) (.int 6364136223846793)) .nil)) (.int 2305843009213693951)))
  (.cons (.sub (.var 4) (.var 0) (.int 3))
  (.cons (.ret (.bin false .Mod (.bin false .FloorDiv (.var 4) (.int 65536)) (.var 1)))
  .nil))))))))))
def fn__law_draw : Fn := retF fun ds S => runB ir__law_draw (startR nm__law_draw ds) S

theorem mt__law_draw : mB nm__law_draw (fun _ => true) (defScope (top 40)) ir__law_draw (defBody (top 40)) = true := by decide +kernel
def nm__law_same : List Str := ["told", "due", "k"]
def ir__law_same (self : Fn) : ISs := (.cons (.ife (.cmp .Is (.var 1) .non) (.cons (.ret (.cmp .Is (.var 0) .non))
  .nil) .nil)
  (.cons (.ife (.isi (.var 1) ["tuple", "list"]) (.cons (.ife (.or (.cons (.not (.isi (.var 0) ["tuple"])) (.cons (.cmp .NotEq (.bi .len (.cons (.var 0) .nil)) (.bi .len (.cons (.var 1) .nil))) .nil))) (.cons (.ret (.bl false))
  .nil) .nil)
  (.cons (.loop (.nm 2) (.rng1 (.bi .len (.cons (.var 1) .nil))) (.cons (.ife (.not (.call "_law_same" 2 self (.cons (.ix (.var 0) (.var 2)) (.cons (.ix (.var 1) (.var 2)) .nil)))) (.cons (.ret (.bl false))
  .nil) .nil)
  .nil))
  (.cons (.ret (.bl true))
  .nil))) .nil)
  (.cons (.ife (.isi (.var 1) ["bool"]) (.cons (.ret (.and (.cons (.isi (.var 0) ["bool"]) (.cons (.cmp .Eq (.var 0) (.var 1)) .nil))))
  .nil) .nil)
  (.cons (.ife (.isi (.var 1) ["int"]) (.cons (.ret (.and (.cons (.isi (.var 0) ["int"]) (.cons (.not (.isi (.var 0) ["bool"])) (.cons (.cmp .Eq (.var 0) (.var 1)) .nil)))))
  .nil) .nil)
  (.cons (.ret (.and (.cons (.isi (.var 0) ["str"]) (.cons (.cmp .Eq (.var 0) (.var 1)) .nil))))
  .nil)))))
def fn__law_same : Nat → Fn
  | 0 => fun _ _ => none
  | k + 1 => retF fun ds S => runB (ir__law_same (fn__law_same k)) (startR nm__law_same ds) S

theorem mt__law_same (self : Fn) : mB nm__law_same (fun _ => true) (defScope (top 41)) (ir__law_same self) (defBody (top 41)) = true := by kernel_rfl
def nm__law_gives : List Str := ["told", "due"]
def ir__law_gives : ISs := (.cons (.ret (.and (.cons (.cmp .Eq (.ix (.var 0) (.int 0)) (.str "value")) (.cons (.call "_law_same" 2 (fn__law_same 9) (.cons (.ix (.var 0) (.int 1)) (.cons (.var 1) .nil))) .nil))))
  .nil)
def fn__law_gives : Fn := retF fun ds S => runB ir__law_gives (startR nm__law_gives ds) S

theorem mt__law_gives : mB nm__law_gives (fun _ => true) (defScope (top 44)) ir__law_gives (defBody (top 44)) = true := by decide +kernel
def nm__law_raises : List Str := ["told", "kind", "kept"]
def ir__law_raises : ISs := (.cons (.ife (.or (.cons (.cmp .NotEq (.ix (.var 0) (.int 0)) (.str "raised")) (.cons (.cmp .NotEq (.bi .len (.cons (.ix (.var 0) (.int 1)) .nil)) (.int 1)) (.cons (.cmp .NotEq (.ix (.ix (.ix (.var 0) (.int 1)) (.int 0)) (.int 0)) (.var 1)) .nil)))) (.cons (.ret (.bl false))
  .nil) .nil)
  (.cons (.ife (.isi (.var 2) ["list"]) (.cons (.ret (.and (.cons (.isi (.ix (.ix (.ix (.var 0) (.int 1)) (.int 0)) (.int 1)) ["list"]) (.cons (.cmp .Eq (.ix (.ix (.ix (.var 0) (.int 1)) (.int 0)) (.int 1)) (.var 2)) .nil))))
  .nil) .nil)
  (.cons (.ret (.call "_law_same" 2 (fn__law_same 9) (.cons (.ix (.ix (.ix (.var 0) (.int 1)) (.int 0)) (.int 1)) (.cons (.var 2) .nil))))
  .nil)))
def fn__law_raises : Fn := retF fun ds S => runB ir__law_raises (startR nm__law_raises ds) S

theorem mt__law_raises : mB nm__law_raises (fun _ => true) (defScope (top 43)) ir__law_raises (defBody (top 43)) = true := by decide +kernel
def nm_joined : List Str := ["parts", "sign", "none", "part"]
def ir_joined : ISs := (.cons (.ret (.ife (.cmp .Gt (.bi .len (.cons (.var 0) .nil)) (.int 0)) (.meth .join (.var 1) (.lc false [("part", 3)] (.nm 3) (.seq (.var 0)) .no (.bi .str (.cons (.var 3) .nil)))) (.var 2)))
  .nil)
def fn_joined : Fn := retF fun ds S => runB ir_joined (startR nm_joined ds) S

theorem mt_joined : mB nm_joined (fun _ => true) (defScope (top 22)) ir_joined (defBody (top 22)) = true := by decide +kernel
def nm_text_of_type : List Str := ["its", "torsion", "free", "one"]
def ir_text_of_type : ISs := (.cons (.asg (.tp [1, 2]) (.var 0))
  (.cons (.ret (.call "joined" 3 fn_joined (.cons (.bin false .Add (.lc false [("one", 3)] (.nm 3) (.seq (.var 1)) .no (.fmt (.cons (.str "Z/") (.cons (.fv (.var 3)) .nil)))) (.bin false .Mult (.lst false (.cons (.str "Z") .nil)) (.var 2))) (.cons (.str " + ") (.cons (.str "0") .nil)))))
  .nil))
def fn_text_of_type : Fn := retF fun ds S => runB ir_text_of_type (startR nm_text_of_type ds) S

theorem mt_text_of_type : mB nm_text_of_type (fun _ => true) (defScope (top 35)) ir_text_of_type (defBody (top 35)) = true := by decide +kernel
def nm_is_row : List Str := ["value"]
def ir_is_row : ISs := (.cons (.ret (.isi (.var 0) ["list", "tuple"]))
  .nil)
def fn_is_row : Fn := retF fun ds S => runB ir_is_row (startR nm_is_row ds) S

theorem mt_is_row : mB nm_is_row (fun _ => true) (defScope (top 17)) ir_is_row (defBody (top 17)) = true := by decide +kernel
def nm_is_number : List Str := ["value"]
def ir_is_number : ISs := (.cons (.ret (.and (.cons (.isi (.var 0) ["int"]) (.cons (.not (.isi (.var 0) ["bool"])) .nil))))
  .nil)
def fn_is_number : Fn := retF fun ds S => runB ir_is_number (startR nm_is_number ds) S

theorem mt_is_number : mB nm_is_number (fun _ => true) (defScope (top 15)) ir_is_number (defBody (top 15)) = true := by decide +kernel
def nm_is_from_to : List Str := ["value", "least", "most"]
def ir_is_from_to : ISs := (.cons (.ret (.and (.cons (.call "is_number" 1 fn_is_number (.cons (.var 0) .nil)) (.cons (.chn .LtE .LtE (.var 1) (.var 0) (.var 2)) .nil))))
  .nil)
def fn_is_from_to : Fn := retF fun ds S => runB ir_is_from_to (startR nm_is_from_to ds) S

theorem mt_is_from_to : mB nm_is_from_to (fun _ => true) (defScope (top 16)) ir_is_from_to (defBody (top 16)) = true := by decide +kernel
def nm_is_type : List Str := ["value", "last", "one"]
def ir_is_type : ISs := (.cons (.ife (.or (.cons (.not (.call "is_row" 1 fn_is_row (.cons (.var 0) .nil))) (.cons (.cmp .NotEq (.bi .len (.cons (.var 0) .nil)) (.glob "TYPE_PARTS" (.int 2))) (.cons (.not (.call "is_row" 1 fn_is_row (.cons (.ix (.var 0) (.int 0)) .nil))) (.cons (.not (.call "is_from_to" 3 fn_is_from_to (.cons (.ix (.var 0) (.int 1)) (.cons (.int 0) (.cons (.int 64) .nil))))) .nil))))) (.cons (.ret (.bl false))
  .nil) .nil)
  (.cons (.asg (.nm 1) (.int 1))
  (.cons (.loop (.nm 2) (.seq (.ix (.var 0) (.int 0))) (.cons (.ife (.or (.cons (.not (.call "is_from_to" 3 fn_is_from_to (.cons (.var 2) (.cons (.int 2) (.cons (.glob "MOST_ORDER" (.int 1000000000000000000000000000000000000000000000000000000000000)) .nil))))) (.cons (.cmp .NotEq (.bin false .Mod (.var 2) (.var 1)) (.int 0)) .nil))) (.cons (.ret (.bl false))
  .nil) .nil)
  (.cons (.asg (.nm 1) (.var 2))
  .nil)))
  (.cons (.ret (.bl true))
  .nil))))
def fn_is_type : Fn := retF fun ds S => runB ir_is_type (startR nm_is_type ds) S

theorem mt_is_type : mB nm_is_type (fun _ => true) (defScope (top 36)) ir_is_type (defBody (top 36)) = true := by decide +kernel
def nm_type_text : List Str := ["its"]
def ir_type_text : ISs := (.cons (.ife (.not (.call "is_type" 1 fn_is_type (.cons (.var 0) .nil))) (.cons (.rse "Unfit" (.str "type"))
  .nil) .nil)
  (.cons (.ret (.call "text_of_type" 1 fn_text_of_type (.cons (.var 0) .nil)))
  .nil))
def fn_type_text : Fn := retF fun ds S => runB ir_type_text (startR nm_type_text ds) S

theorem mt_type_text : mB nm_type_text (fun _ => true) (defScope (top 37)) ir_type_text (defBody (top 37)) = true := by decide +kernel
def nm__law_types : List Str := ["source", "orders", "last", "k", "free", "parts", "due", "handed", "small", "bad", "turn", "none"]
def ir__law_types : ISs := (.cons (.asg (.nm 1) (.lst true .nil))
  (.cons (.asg (.nm 2) (.bin false .Add (.int 2) (.call "_law_draw" 2 fn__law_draw (.cons (.var 0) (.cons (.int 9) .nil)))))
  (.cons (.ife (.cmp .Eq (.call "_law_draw" 2 fn__law_draw (.cons (.var 0) (.cons (.int 5) .nil))) (.int 0)) (.cons (.asg (.nm 2) (.bin false .Add (.bin false .Mult (.var 2) (.bin false .Pow (.int 10) (.int 19))) (.int 6)))
  .nil) .nil)
  (.cons (.loop (.nm 3) (.rng1 (.call "_law_draw" 2 fn__law_draw (.cons (.var 0) (.cons (.int 6) .nil)))) (.cons (.expr (.meth .append (.var 1) (.var 2)))
  (.cons (.asg (.nm 2) (.bin false .Mult (.var 2) (.ix (.tup (.cons (.int 1) (.cons (.int 2) (.cons (.int 3) (.cons (.int 1) (.cons (.int 10) .nil)))))) (.call "_law_draw" 2 fn__law_draw (.cons (.var 0) (.cons (.int 5) .nil))))))
  .nil)))
  (.cons (.asg (.nm 4) (.ix (.tup (.cons (.int 0) (.cons (.int 1) (.cons (.int 2) (.cons (.int 64) (.cons (.int 0) (.cons (.int 3) .nil))))))) (.call "_law_draw" 2 fn__law_draw (.cons (.var 0) (.cons (.int 6) .nil)))))
  (.cons (.asg (.nm 5) (.bin false .Add (.lc false [("k", 3)] (.nm 3) (.seq (.var 1)) .no (.bin false .Add (.str "Z/") (.bi .str (.cons (.var 3) .nil)))) (.bin false .Mult (.lst false (.cons (.str "Z") .nil)) (.var 4))))
  (.cons (.asg (.nm 6) (.ife (.cmp .Gt (.bi .len (.cons (.var 5) .nil)) (.int 0)) (.meth .join (.str " + ") (.var 5)) (.str "0")))
  (.cons (.asg (.nm 7) (.tup (.cons (.bi .tuple (.cons (.var 1) .nil)) (.cons (.var 4) .nil))))
  (.cons (.ife (.cmp .Eq (.call "_law_draw" 2 fn__law_draw (.cons (.var 0) (.cons (.int 2) .nil))) (.int 0)) (.cons (.asg (.nm 7) (.lst false (.cons (.lc false [("k", 3)] (.nm 3) (.seq (.var 1)) .no (.var 3)) (.cons (.var 4) .nil))))
  .nil) .nil)
  (.cons (.ife (.not (.call "_law_gives" 2 fn__law_gives (.cons (.told (.call "type_text" 1 fn_type_text (.cons (.var 7) .nil))) (.cons (.var 6) .nil)))) (.cons (.ret (.bl false))
  .nil) .nil)
  (.cons (.ife (.or (.cons (.cmp .NotEq (.lc false [("k", 3)] (.nm 3) (.seq (.ix (.var 7) (.int 0))) .no (.var 3)) (.var 1)) (.cons (.cmp .NotEq (.ix (.var 7) (.int 1)) (.var 4)) .nil))) (.cons (.ret (.bl false))
  .nil) .nil)
  (.cons (.asg (.nm 8) (.bi .tuple (.cons (.var 1) .nil)))
  (.cons (.asg (.nm 9) (.tup (.cons (.tup (.cons (.var 8) (.cons (.int 65) .nil))) (.cons (.tup (.cons (.var 8) (.cons (.neg (.int 1)) .nil))) (.cons (.tup (.cons (.var 8) (.cons (.bl true) .nil))) (.cons (.tup (.cons (.var 8) (.cons (.str "1") .nil))) (.cons (.tup (.cons (.var 8) (.cons .non .nil))) (.cons (.tup (.cons (.var 8) .nil)) (.cons (.tup (.cons (.var 8) (.cons (.var 4) (.cons (.int 0) .nil)))) (.cons (.var 8) (.cons (.int 5) (.cons .non .nil))))))))))))
  (.cons (.asg (.nm 9) (.bin false .Add (.var 9) (.tup (.cons (.tup (.cons (.bin false .Add (.tup (.cons (.int 1) .nil)) (.var 8)) (.cons (.var 4) .nil))) (.cons (.tup (.cons (.bin false .Add (.tup (.cons (.int 0) .nil)) (.var 8)) (.cons (.var 4) .nil))) (.cons (.ife (.cmp .Gt (.bi .len (.cons (.var 1) .nil)) (.int 0)) (.tup (.cons (.bin false .Add (.var 8) (.tup (.cons (.bin false .Add (.var 2) (.int 1)) .nil))) (.cons (.var 4) .nil))) (.tup (.cons (.tup (.cons (.int 3) (.cons (.int 4) .nil))) (.cons (.int 0) .nil)))) .nil))))))
  (.cons (.asg (.nm 9) (.bin false .Add (.var 9) (.tup (.cons (.tup (.cons (.tup (.cons (.int 4) (.cons (.int 2) .nil))) (.cons (.int 1) .nil))) (.cons (.tup (.cons (.tup (.cons (.int 2) (.cons (.int 3) .nil))) (.cons (.int 0) .nil))) (.cons (.tup (.cons (.tup (.cons (.neg (.int 2)) .nil)) (.cons (.int 0) .nil))) (.cons (.tup (.cons (.tup (.cons (.bl true) .nil)) (.cons (.int 0) .nil))) (.cons (.tup (.cons (.tup (.cons (.str "2") .nil)) (.cons (.int 0) .nil))) (.cons (.tup (.cons (.int 2) (.cons (.int 0) .nil))) (.cons (.tup (.cons (.str "") (.cons (.int 0) .nil))) (.cons (.str "Z/2") (.cons (.tup (.cons (.var 8) (.cons (.var 8) .nil))) .nil))))))))))))
  (.cons (.loop (.nm 10) (.rng1 (.int 3)) (.cons (.asg (.nm 11) (.ix (.var 9) (.call "_law_draw" 2 fn__law_draw (.cons (.var 0) (.cons (.bi .len (.cons (.var 9) .nil)) .nil)))))
  (.cons (.ife (.not (.call "_law_raises" 3 fn__law_raises (.cons (.told (.call "type_text" 1 fn_type_text (.cons (.var 11) .nil))) (.cons (.str "Unfit") (.cons (.str "type") .nil))))) (.cons (.ret (.bl false))
  .nil) .nil)
  .nil)))
  (.cons (.ret (.bl true))
  .nil)))))))))))))))))
def fn__law_types : Fn := retF fun ds S => runB ir__law_types (startR nm__law_types ds) S

theorem mt__law_types : mB nm__law_types (fun _ => true) (defScope (top 60)) ir__law_types (defBody (top 60)) = true := by decide +kernel
def nm__law_copy : List Str := ["a", "x", "row"]
def ir__law_copy : ISs := (.cons (.ret (.lc false [("row", 2)] (.nm 2) (.seq (.var 0)) .no (.lc false [("x", 1)] (.nm 1) (.seq (.var 2)) .no (.var 1))))
  .nil)
def fn__law_copy : Fn := retF fun ds S => runB ir__law_copy (startR nm__law_copy ds) S

theorem mt__law_copy : mB nm__law_copy (fun _ => true) (defScope (top 47)) ir__law_copy (defBody (top 47)) = true := by decide +kernel
def nm__law_tuple : List Str := ["a", "row"]
def ir__law_tuple : ISs := (.cons (.ret (.bi .tuple (.cons (.lc false [("row", 1)] (.nm 1) (.seq (.var 0)) .no (.bi .tuple (.cons (.var 1) .nil))) .nil)))
  .nil)
def fn__law_tuple : Fn := retF fun ds S => runB ir__law_tuple (startR nm__law_tuple ds) S

theorem mt__law_tuple : mB nm__law_tuple (fun _ => true) (defScope (top 46)) ir__law_tuple (defBody (top 46)) = true := by decide +kernel
def nm__law_handed : List Str := ["source", "a"]
def ir__law_handed : ISs := (.cons (.ret (.ife (.cmp .Eq (.call "_law_draw" 2 fn__law_draw (.cons (.var 0) (.cons (.int 2) .nil))) (.int 0)) (.call "_law_copy" 1 fn__law_copy (.cons (.var 1) .nil)) (.call "_law_tuple" 1 fn__law_tuple (.cons (.var 1) .nil))))
  .nil)
def fn__law_handed : Fn := retF fun ds S => runB ir__law_handed (startR nm__law_handed ds) S

theorem mt__law_handed : mB nm__law_handed (fun _ => true) (defScope (top 45)) ir__law_handed (defBody (top 45)) = true := by decide +kernel
def nm__law_bent : List Str := ["source", "text", "turn", "at", "sign", "way"]
def ir__law_bent : ISs := (.cons (.loop (.nm 2) (.rng1 (.bin false .Add (.int 1) (.call "_law_draw" 2 fn__law_draw (.cons (.var 0) (.cons (.int 3) .nil))))) (.cons (.asg (.nm 3) (.call "_law_draw" 2 fn__law_draw (.cons (.var 0) (.cons (.bin false .Add (.bi .len (.cons (.var 1) .nil)) (.int 1)) .nil))))
  (.cons (.asg (.nm 4) (.ix (.str "0123456789-- \n,;+x.,") (.call "_law_draw" 2 fn__law_draw (.cons (.var 0) (.cons (.int 20) .nil)))))
  (.cons (.asg (.nm 5) (.call "_law_draw" 2 fn__law_draw (.cons (.var 0) (.cons (.int 4) .nil))))
  (.cons (.ife (.cmp .Eq (.var 5) (.int 0)) (.cons (.asg (.nm 1) (.bin false .Add (.bin false .Add (.sl false (.var 1) .no (.yes (.var 3))) (.var 4)) (.sl false (.var 1) (.yes (.var 3)) .no)))
  .nil) .nil)
  (.cons (.ife (.cmp .Eq (.var 5) (.int 1)) (.cons (.asg (.nm 1) (.bin false .Add (.sl false (.var 1) .no (.yes (.var 3))) (.sl false (.var 1) (.yes (.bin false .Add (.var 3) (.int 1))) .no)))
  .nil) .nil)
  (.cons (.ife (.cmp .Eq (.var 5) (.int 2)) (.cons (.asg (.nm 1) (.bin false .Add (.bin false .Add (.sl false (.var 1) .no (.yes (.var 3))) (.var 4)) (.sl false (.var 1) (.yes (.bin false .Add (.var 3) (.int 1))) .no)))
  .nil) .nil)
  (.cons (.ife (.and (.cons (.cmp .Eq (.var 5) (.int 3)) (.cons (.cmp .Lt (.var 3) (.bi .len (.cons (.var 1) .nil))) .nil))) (.cons (.asg (.nm 1) (.bin false .Add (.bin false .Add (.sl false (.var 1) .no (.yes (.var 3))) (.ix (.var 1) (.var 3))) (.sl false (.var 1) (.yes (.var 3)) .no)))
  .nil) .nil)
  .nil))))))))
  (.cons (.ret (.var 1))
  .nil))
def fn__law_bent : Fn := retF fun ds S => runB ir__law_bent (startR nm__law_bent ds) S

theorem mt__law_bent : mB nm__law_bent (fun _ => true) (defScope (top 55)) ir__law_bent (defBody (top 55)) = true := by decide +kernel
def nm__law_word : List Str := ["source", "words"]
def ir__law_word : ISs := (.cons (.asg (.nm 1) (.tup (.cons (.str "") (.cons (.str "+1") (.cons (.str "01") (.cons (.str "-0") (.cons (.str "00") (.cons (.str "1000001") (.cons (.str "-1000001") (.cons (.str "9999999") (.cons (.str "10000000") (.cons (.str "1.0") (.cons (.str "1e3") (.cons (.str "--1") (.cons (.str "-") (.cons (.str "1_0") (.cons (.str "a") .nil)))))))))))))))))
  (.cons (.asg (.nm 1) (.bin false .Add (.var 1) (.tup (.cons (.str "-01") (.cons (.str "0x1") (.cons (.str "1000000") (.cons (.str "-1000000") (.cons (.str "0") .nil))))))))
  (.cons (.ret (.ix (.var 1) (.call "_law_draw" 2 fn__law_draw (.cons (.var 0) (.cons (.bi .len (.cons (.var 1) .nil)) .nil)))))
  .nil)))
def fn__law_word : Fn := retF fun ds S => runB ir__law_word (startR nm__law_word ds) S

theorem mt__law_word : mB nm__law_word (fun _ => true) (defScope (top 56)) ir__law_word (defBody (top 56)) = true := by decide +kernel
def nm__law_texts : List Str := ["source", "rows", "words", "x", "row", "whole", "told", "at", "side", "turn", "other", "word", "low", "less", "more"]
def ir__law_texts : ISs := (.cons (.asg (.nm 2) (.lc false [("row", 4)] (.nm 4) (.seq (.var 1)) .no (.lc false [("x", 3)] (.nm 3) (.seq (.var 4)) .no (.bi .str (.cons (.var 3) .nil)))))
  (.cons (.asg (.nm 5) (.meth .join (.str "\n") (.lc false [("row", 4)] (.nm 4) (.seq (.var 2)) .no (.meth .join (.str " ") (.var 4)))))
  (.cons (.asg (.nm 6) (.lst true (.cons (.var 5) (.cons (.call "_law_bent" 2 fn__law_bent (.cons (.var 0) (.cons (.var 5) .nil))) (.cons (.call "_law_bent" 2 fn__law_bent (.cons (.var 0) (.cons (.var 5) .nil))) (.cons (.bin false .Add (.var 5) (.str "\n")) (.cons (.bin false .Add (.str " ") (.var 5)) (.cons (.bin false .Add (.var 5) (.str " ")) .nil))))))))
  (.cons (.asg (.nm 7) (.call "_law_draw" 2 fn__law_draw (.cons (.var 0) (.cons (.bi .len (.cons (.var 1) .nil)) .nil))))
  (.cons (.asg (.nm 8) (.call "_law_draw" 2 fn__law_draw (.cons (.var 0) (.cons (.bi .len (.cons (.ix (.var 1) (.int 0)) .nil)) .nil))))
  (.cons (.loop (.nm 9) (.rng1 (.int 3)) (.cons (.asg (.nm 10) (.lc false [("row", 4)] (.nm 4) (.seq (.var 2)) .no (.lc true [("word", 11)] (.nm 11) (.seq (.var 4)) .no (.var 11))))
  (.cons (.sub (.call "_law_word" 1 fn__law_word (.cons (.var 0) .nil)) (.ix (.var 10) (.var 7)) (.var 8))
  (.cons (.ife (.cmp .Eq (.var 9) (.int 2)) (.cons (.asg (.nm 12) (.call "_law_draw" 2 fn__law_draw (.cons (.var 0) (.cons (.bi .len (.cons (.var 1) .nil)) .nil))))
  (.cons (.sub (.call "_law_word" 1 fn__law_word (.cons (.var 0) .nil)) (.ix (.var 10) (.var 12)) (.int 0))
  .nil)) .nil)
  (.cons (.expr (.meth .append (.var 6) (.meth .join (.str "\n") (.lc false [("row", 4)] (.nm 4) (.seq (.var 10)) .no (.meth .join (.str " ") (.var 4))))))
  .nil)))))
  (.cons (.asg (.nm 13) (.bin false .Add (.bin false .Add (.sl false (.var 2) .no (.yes (.var 7))) (.lst false (.cons (.sl false (.ix (.var 2) (.var 7)) .no (.yes (.neg (.int 1)))) .nil))) (.sl false (.var 2) (.yes (.bin false .Add (.var 7) (.int 1))) .no)))
  (.cons (.expr (.meth .append (.var 6) (.meth .join (.str "\n") (.lc false [("row", 4)] (.nm 4) (.seq (.var 13)) .no (.meth .join (.str " ") (.var 4))))))
  (.cons (.asg (.nm 14) (.bin false .Add (.bin false .Add (.sl false (.var 2) .no (.yes (.var 7))) (.lst false (.cons (.bin false .Add (.ix (.var 2) (.var 7)) (.lst false (.cons (.str "7") .nil))) .nil))) (.sl false (.var 2) (.yes (.bin false .Add (.var 7) (.int 1))) .no)))
  (.cons (.expr (.meth .append (.var 6) (.meth .join (.str "\n") (.lc false [("row", 4)] (.nm 4) (.seq (.var 14)) .no (.meth .join (.str " ") (.var 4))))))
  (.cons (.expr (.meth .append (.var 6) (.meth .join (.str "\n") (.lc false [("row", 4)] (.nm 4) (.seq (.bin false .Add (.var 2) (.var 2))) .no (.meth .join (.str " ") (.var 4))))))
  (.cons (.expr (.meth .append (.var 6) (.meth .join (.str "\n") (.lc false [("row", 4)] (.nm 4) (.seq (.var 2)) .no (.meth .join (.str " ") (.bin false .Add (.var 4) (.var 4)))))))
  (.cons (.ret (.var 6))
  .nil)))))))))))))
def fn__law_texts : Fn := retF fun ds S => runB ir__law_texts (startR nm__law_texts ds) S

theorem mt__law_texts : mB nm__law_texts (fun _ => true) (defScope (top 57)) ir__law_texts (defBody (top 57)) = true := by decide +kernel
def nm__law_one : List Str := ["source", "most", "told"]
def ir__law_one : ISs := (.cons (.asg (.nm 1) (.ix (.tup (.cons (.int 10) (.cons (.int 10) (.cons (.int 100) (.cons (.int 1000) (.cons (.int 100000) (.cons (.int 1000000) (.cons (.int 2) .nil)))))))) (.call "_law_draw" 2 fn__law_draw (.cons (.var 0) (.cons (.int 7) .nil)))))
  (.cons (.asg (.nm 2) (.call "_law_draw" 2 fn__law_draw (.cons (.var 0) (.cons (.bin false .Add (.var 1) (.int 1)) .nil))))
  (.cons (.ret (.ife (.cmp .Eq (.call "_law_draw" 2 fn__law_draw (.cons (.var 0) (.cons (.int 2) .nil))) (.int 0)) (.neg (.var 2)) (.var 2)))
  .nil)))
def fn__law_one : Fn := retF fun ds S => runB ir__law_one (startR nm__law_one ds) S

theorem mt__law_one : mB nm__law_one (fun _ => true) (defScope (top 54)) ir__law_one (defBody (top 54)) = true := by decide +kernel
def nm__law_fits : List Str := ["told", "due"]
def ir__law_fits : ISs := (.cons (.ife (.cmp .Eq (.ix (.var 1) (.int 0)) (.str "value")) (.cons (.ret (.call "_law_gives" 2 fn__law_gives (.cons (.var 0) (.cons (.ix (.var 1) (.int 1)) .nil))))
  .nil) .nil)
  (.cons (.ret (.call "_law_raises" 3 fn__law_raises (.cons (.var 0) (.cons (.str "InvalidText") (.cons (.ix (.var 1) (.int 1)) .nil)))))
  .nil))
def fn__law_fits : Fn := retF fun ds S => runB ir__law_fits (startR nm__law_fits ds) S

theorem mt__law_fits : mB nm__law_fits (fun _ => true) (defScope (top 53)) ir__law_fits (defBody (top 53)) = true := by decide +kernel
def nm__law_number : List Str := ["word", "body", "sign", "told"]
def ir__law_number : ISs := (.cons (.asg (.nm 1) (.ife (.cmp .Eq (.sl false (.var 0) .no (.yes (.int 1))) (.str "-")) (.sl false (.var 0) (.yes (.int 1)) .no) (.var 0)))
  (.cons (.ife (.or (.cons (.cmp .Eq (.var 1) (.str "")) (.cons (.cmp .Gt (.bi .len (.cons (.var 1) .nil)) (.int 7)) (.cons (.bi .any (.cons (.lc false [("sign", 2)] (.nm 2) (.seq (.var 1)) .no (.cmp .NotIn (.var 2) (.str "0123456789"))) .nil)) .nil)))) (.cons (.ret .non)
  .nil) .nil)
  (.cons (.ife (.and (.cons (.cmp .Eq (.ix (.var 1) (.int 0)) (.str "0")) (.cons (.cmp .Gt (.bi .len (.cons (.var 0) .nil)) (.int 1)) .nil))) (.cons (.ret .non)
  .nil) .nil)
  (.cons (.asg (.nm 3) (.bi .int (.cons (.var 0) .nil)))
  (.cons (.ret (.ife (.cmp .LtE (.bi .abs (.cons (.var 3) .nil)) (.int 1000000)) (.var 3) .non))
  .nil)))))
def fn__law_number : Fn := retF fun ds S => runB ir__law_number (startR nm__law_number ds) S

theorem mt__law_number : mB nm__law_number (fun _ => true) (defScope (top 48)) ir__law_number (defBody (top 48)) = true := by decide +kernel
def nm__law_numbers : List Str := ["words", "word"]
def ir__law_numbers : ISs := (.cons (.ret (.lc false [("word", 1)] (.nm 1) (.seq (.var 0)) .no (.call "_law_number" 1 fn__law_number (.cons (.var 1) .nil))))
  .nil)
def fn__law_numbers : Fn := retF fun ds S => runB ir__law_numbers (startR nm__law_numbers ds) S

theorem mt__law_numbers : mB nm__law_numbers (fun _ => true) (defScope (top 49)) ir__law_numbers (defBody (top 49)) = true := by decide +kernel
def nm__law_is_wrong : List Str := ["words", "many", "x"]
def ir__law_is_wrong : ISs := (.cons (.ret (.or (.cons (.cmp .Gt (.bi .len (.cons (.var 0) .nil)) (.int 8)) (.cons (.cmp .NotEq (.bi .len (.cons (.var 0) .nil)) (.var 1)) (.cons (.bi .any (.cons (.lc false [("x", 2)] (.nm 2) (.seq (.call "_law_numbers" 1 fn__law_numbers (.cons (.var 0) .nil))) .no (.cmp .Is (.var 2) .non)) .nil)) .nil)))))
  .nil)
def fn__law_is_wrong : Fn := retF fun ds S => runB ir__law_is_wrong (startR nm__law_is_wrong ds) S

theorem mt__law_is_wrong : mB nm__law_is_wrong (fun _ => true) (defScope (top 50)) ir__law_is_wrong (defBody (top 50)) = true := by decide +kernel
def nm__law_matrix_due : List Str := ["text", "lines", "line", "k", "words"]
def ir__law_matrix_due : ISs := (.cons (.asg (.nm 1) (.lc false [("line", 2)] (.nm 2) (.seq (.meth (.split false) (.var 0) (.str "\n"))) .no (.meth (.split false) (.var 2) (.str " "))))
  (.cons (.ife (.cmp .Gt (.bi .len (.cons (.var 1) .nil)) (.int 8)) (.cons (.ret (.tup (.cons (.str "raised") (.cons (.int 0) .nil))))
  .nil) .nil)
  (.cons (.loop (.nm 3) (.rng1 (.bi .len (.cons (.var 1) .nil))) (.cons (.ife (.call "_law_is_wrong" 2 fn__law_is_wrong (.cons (.ix (.var 1) (.var 3)) (.cons (.bi .len (.cons (.ix (.var 1) (.int 0)) .nil)) .nil))) (.cons (.ret (.tup (.cons (.str "raised") (.cons (.var 3) .nil))))
  .nil) .nil)
  .nil))
  (.cons (.ret (.tup (.cons (.str "value") (.cons (.lc false [("words", 4)] (.nm 4) (.seq (.var 1)) .no (.call "_law_numbers" 1 fn__law_numbers (.cons (.var 4) .nil))) .nil))))
  .nil))))
def fn__law_matrix_due : Fn := retF fun ds S => runB ir__law_matrix_due (startR nm__law_matrix_due ds) S

theorem mt__law_matrix_due : mB nm__law_matrix_due (fun _ => true) (defScope (top 51)) ir__law_matrix_due (defBody (top 51)) = true := by decide +kernel
def nm_number_told : List Str := ["word", "plain", "sign", "found"]
def ir_number_told : ISs := (.cons (.asg (.nm 1) (.ife (.cmp .Eq (.sl false (.var 0) .no (.yes (.int 1))) (.str "-")) (.sl false (.var 0) (.yes (.int 1)) .no) (.var 0)))
  (.cons (.ife (.or (.cons (.not (.chn .LtE .LtE (.int 1) (.bi .len (.cons (.var 1) .nil)) (.glob "FIGURES" (.int 7)))) (.cons (.not (.bi .all (.cons (.lc false [("sign", 2)] (.nm 2) (.seq (.var 1)) .no (.cmp .In (.var 2) (.str "0123456789"))) .nil))) .nil))) (.cons (.ret .non)
  .nil) .nil)
  (.cons (.ife (.or (.cons (.and (.cons (.cmp .Gt (.bi .len (.cons (.var 1) .nil)) (.int 1)) (.cons (.cmp .Eq (.ix (.var 1) (.int 0)) (.str "0")) .nil))) (.cons (.cmp .Eq (.var 0) (.str "-0")) .nil))) (.cons (.ret .non)
  .nil) .nil)
  (.cons (.asg (.nm 3) (.bi .int (.cons (.var 0) .nil)))
  (.cons (.ret (.ife (.call "is_from_to" 3 fn_is_from_to (.cons (.var 3) (.cons (.neg (.glob "MOST_NUMBER" (.int 1000000))) (.cons (.glob "MOST_NUMBER" (.int 1000000)) .nil)))) (.var 3) .non))
  .nil)))))
def fn_number_told : Fn := retF fun ds S => runB ir_number_told (startR nm_number_told ds) S

theorem mt_number_told : mB nm_number_told (fun _ => true) (defScope (top 27)) ir_number_told (defBody (top 27)) = true := by decide +kernel
def nm_row_told : List Str := ["text", "sign", "words", "found", "word"]
def ir_row_told : ISs := (.cons (.asg (.nm 2) (.meth (.split false) (.var 0) (.var 1)))
  (.cons (.asg (.nm 3) (.lc false [("word", 4)] (.nm 4) (.seq (.var 2)) .no (.call "number_told" 1 fn_number_told (.cons (.var 4) .nil))))
  (.cons (.ret (.ife (.or (.cons (.cmp .In .non (.var 3)) (.cons (.cmp .Gt (.bi .len (.cons (.var 3) .nil)) (.glob "MOST_SIZE" (.int 8))) .nil))) .non (.bi .tuple (.cons (.var 3) .nil))))
  .nil)))
def fn_row_told : Fn := retF fun ds S => runB ir_row_told (startR nm_row_told ds) S

theorem mt_row_told : mB nm_row_told (fun _ => true) (defScope (top 28)) ir_row_told (defBody (top 28)) = true := by decide +kernel
def nm_rows_told : List Str := ["lines", "sign", "found", "place", "line", "row"]
def ir_rows_told : ISs := (.cons (.asg (.nm 2) (.lst true .nil))
  (.cons (.loop (.tp [3, 4]) (.enum (.var 0)) (.cons (.asg (.nm 5) (.call "row_told" 2 fn_row_told (.cons (.var 4) (.cons (.var 1) .nil))))
  (.cons (.ife (.or (.cons (.cmp .Is (.var 5) .non) (.cons (.and (.cons (.cmp .Gt (.bi .len (.cons (.var 2) .nil)) (.int 0)) (.cons (.cmp .NotEq (.bi .len (.cons (.var 5) .nil)) (.bi .len (.cons (.ix (.var 2) (.int 0)) .nil))) .nil))) .nil))) (.cons (.ret (.tup (.cons (.var 2) (.cons (.var 3) .nil))))
  .nil) .nil)
  (.cons (.expr (.meth .append (.var 2) (.var 5)))
  .nil))))
  (.cons (.ret (.tup (.cons (.var 2) (.cons .non .nil))))
  .nil)))
def fn_rows_told : Fn := retF fun ds S => runB ir_rows_told (startR nm_rows_told ds) S

theorem mt_rows_told : mB nm_rows_told (fun _ => true) (defScope (top 30)) ir_rows_told (defBody (top 30)) = true := by decide +kernel
def nm_read_matrix : List Str := ["text", "lines", "found", "wrong"]
def ir_read_matrix : ISs := (.cons (.ife (.not (.isi (.var 0) ["str"])) (.cons (.rse "InvalidText" (.int 0))
  .nil) .nil)
  (.cons (.asg (.nm 1) (.meth (.split false) (.var 0) (.str "\n")))
  (.cons (.ife (.cmp .Gt (.bi .len (.cons (.var 1) .nil)) (.glob "MOST_SIZE" (.int 8))) (.cons (.rse "InvalidText" (.int 0))
  .nil) .nil)
  (.cons (.asg (.tp [2, 3]) (.call "rows_told" 2 fn_rows_told (.cons (.var 1) (.cons (.str " ") .nil))))
  (.cons (.ife (.cmp .IsNot (.var 3) .non) (.cons (.rse "InvalidText" (.var 3))
  .nil) .nil)
  (.cons (.ret (.bi .tuple (.cons (.var 2) .nil)))
  .nil))))))
def fn_read_matrix : Fn := retF fun ds S => runB ir_read_matrix (startR nm_read_matrix ds) S

theorem mt_read_matrix : mB nm_read_matrix (fun _ => true) (defScope (top 31)) ir_read_matrix (defBody (top 31)) = true := by decide +kernel
def nm_is_vector : List Str := ["value", "one"]
def ir_is_vector : ISs := (.cons (.ife (.or (.cons (.not (.call "is_row" 1 fn_is_row (.cons (.var 0) .nil))) (.cons (.not (.chn .LtE .LtE (.int 1) (.bi .len (.cons (.var 0) .nil)) (.glob "MOST_SIZE" (.int 8)))) .nil))) (.cons (.ret (.bl false))
  .nil) .nil)
  (.cons (.ret (.bi .all (.cons (.lc false [("one", 1)] (.nm 1) (.seq (.var 0)) .no (.call "is_from_to" 3 fn_is_from_to (.cons (.var 1) (.cons (.neg (.glob "MOST_NUMBER" (.int 1000000))) (.cons (.glob "MOST_NUMBER" (.int 1000000)) .nil))))) .nil)))
  .nil))
def fn_is_vector : Fn := retF fun ds S => runB ir_is_vector (startR nm_is_vector ds) S

theorem mt_is_vector : mB nm_is_vector (fun _ => true) (defScope (top 18)) ir_is_vector (defBody (top 18)) = true := by decide +kernel
def nm_is_matrix : List Str := ["value", "row"]
def ir_is_matrix : ISs := (.cons (.ife (.or (.cons (.not (.call "is_row" 1 fn_is_row (.cons (.var 0) .nil))) (.cons (.not (.chn .LtE .LtE (.int 1) (.bi .len (.cons (.var 0) .nil)) (.glob "MOST_SIZE" (.int 8)))) (.cons (.not (.bi .all (.cons (.lc false [("row", 1)] (.nm 1) (.seq (.var 0)) .no (.call "is_vector" 1 fn_is_vector (.cons (.var 1) .nil))) .nil))) .nil)))) (.cons (.ret (.bl false))
  .nil) .nil)
  (.cons (.ret (.bi .all (.cons (.lc false [("row", 1)] (.nm 1) (.seq (.var 0)) .no (.cmp .Eq (.bi .len (.cons (.var 1) .nil)) (.bi .len (.cons (.ix (.var 0) (.int 0)) .nil)))) .nil)))
  .nil))
def fn_is_matrix : Fn := retF fun ds S => runB ir_is_matrix (startR nm_is_matrix ds) S

theorem mt_is_matrix : mB nm_is_matrix (fun _ => true) (defScope (top 19)) ir_is_matrix (defBody (top 19)) = true := by decide +kernel
def nm_checked_matrix : List Str := ["a", "row"]
def ir_checked_matrix : ISs := (.cons (.ife (.not (.call "is_matrix" 1 fn_is_matrix (.cons (.var 0) .nil))) (.cons (.rse "InvalidMatrix" (.var 0))
  .nil) .nil)
  (.cons (.ret (.bi .tuple (.cons (.lc false [("row", 1)] (.nm 1) (.seq (.var 0)) .no (.bi .tuple (.cons (.var 1) .nil))) .nil)))
  .nil))
def fn_checked_matrix : Fn := retF fun ds S => runB ir_checked_matrix (startR nm_checked_matrix ds) S

theorem mt_checked_matrix : mB nm_checked_matrix (fun _ => true) (defScope (top 21)) ir_checked_matrix (defBody (top 21)) = true := by decide +kernel
def nm_write_matrix : List Str := ["a", "row"]
def ir_write_matrix : ISs := (.cons (.ret (.meth .join (.str "\n") (.lc false [("row", 1)] (.nm 1) (.seq (.call "checked_matrix" 1 fn_checked_matrix (.cons (.var 0) .nil))) .no (.call "joined" 3 fn_joined (.cons (.var 1) (.cons (.str " ") (.cons (.str "") .nil)))))))
  .nil)
def fn_write_matrix : Fn := retF fun ds S => runB ir_write_matrix (startR nm_write_matrix ds) S

theorem mt_write_matrix : mB nm_write_matrix (fun _ => true) (defScope (top 29)) ir_write_matrix (defBody (top 29)) = true := by decide +kernel
def nm__law_matrices : List Str := ["source", "high", "wide", "rows", "j", "i", "handed", "texts", "text", "none", "other"]
def ir__law_matrices : ISs := (.cons (.asg (.nm 1) (.bin false .Add (.int 1) (.call "_law_draw" 2 fn__law_draw (.cons (.var 0) (.cons (.int 8) .nil)))))
  (.cons (.asg (.nm 2) (.bin false .Add (.int 1) (.call "_law_draw" 2 fn__law_draw (.cons (.var 0) (.cons (.int 8) .nil)))))
  (.cons (.asg (.nm 3) (.lc false [("i", 5)] (.nm 5) (.rng1 (.var 1)) .no (.lc false [("j", 4)] (.nm 4) (.rng1 (.var 2)) .no (.call "_law_one" 1 fn__law_one (.cons (.var 0) .nil)))))
  (.cons (.asg (.nm 6) (.call "_law_handed" 2 fn__law_handed (.cons (.var 0) (.cons (.var 3) .nil))))
  (.cons (.asg (.nm 7) (.call "_law_texts" 2 fn__law_texts (.cons (.var 0) (.cons (.var 3) .nil))))
  (.cons (.ife (.or (.cons (.not (.call "_law_gives" 2 fn__law_gives (.cons (.told (.call "write_matrix" 1 fn_write_matrix (.cons (.var 6) .nil))) (.cons (.ix (.var 7) (.int 0)) .nil)))) (.cons (.cmp .NotEq (.call "_law_copy" 1 fn__law_copy (.cons (.var 6) .nil)) (.var 3)) .nil))) (.cons (.ret (.bl false))
  .nil) .nil)
  (.cons (.loop (.nm 8) (.seq (.var 7)) (.cons (.ife (.not (.call "_law_fits" 2 fn__law_fits (.cons (.told (.call "read_matrix" 1 fn_read_matrix (.cons (.var 8) .nil))) (.cons (.call "_law_matrix_due" 1 fn__law_matrix_due (.cons (.var 8) .nil)) .nil)))) (.cons (.ret (.bl false))
  .nil) .nil)
  .nil))
  (.cons (.asg (.nm 9) (.ix (.tup (.cons (.tup (.cons (.tup (.cons (.int 1) (.cons (.int 0) .nil))) (.cons (.tup (.cons (.int 0) .nil)) .nil))) (.cons (.tup .nil) (.cons (.tup (.cons (.tup (.cons (.int 1000001) .nil)) .nil)) (.cons (.tup (.cons (.tup (.cons (.bl false) .nil)) .nil)) (.cons (.int 3) (.cons .non (.cons (.str "1") (.cons (.tup (.cons (.bin false .Mult (.tup (.cons (.int 1) .nil)) (.int 9)) .nil)) .nil))))))))) (.call "_law_draw" 2 fn__law_draw (.cons (.var 0) (.cons (.int 8) .nil)))))
  (.cons (.ife (.not (.call "_law_raises" 3 fn__law_raises (.cons (.told (.call "write_matrix" 1 fn_write_matrix (.cons (.var 9) .nil))) (.cons (.str "InvalidMatrix") (.cons (.var 9) .nil))))) (.cons (.ret (.bl false))
  .nil) .nil)
  (.cons (.asg (.nm 10) (.ix (.tup (.cons (.int 5) (.cons .non (.cons (.bl true) (.cons (.tup (.cons (.str "1 2") .nil)) (.cons (.call "_law_tuple" 1 fn__law_tuple (.cons (.var 3) .nil)) .nil)))))) (.call "_law_draw" 2 fn__law_draw (.cons (.var 0) (.cons (.int 5) .nil)))))
  (.cons (.ret (.call "_law_raises" 3 fn__law_raises (.cons (.told (.call "read_matrix" 1 fn_read_matrix (.cons (.var 10) .nil))) (.cons (.str "InvalidText") (.cons (.int 0) .nil)))))
  .nil)))))))))))
def fn__law_matrices : Fn := retF fun ds S => runB ir__law_matrices (startR nm__law_matrices ds) S

theorem mt__law_matrices : mB nm__law_matrices (fun _ => true) (defScope (top 58)) ir__law_matrices (defBody (top 58)) = true := by decide +kernel
def nm__law_vector_due : List Str := ["text", "words", "told", "k"]
def ir__law_vector_due : ISs := (.cons (.asg (.nm 1) (.meth (.split false) (.var 0) (.str ",")))
  (.cons (.ife (.cmp .Gt (.bi .len (.cons (.var 1) .nil)) (.int 8)) (.cons (.ret (.tup (.cons (.str "raised") (.cons (.int 0) .nil))))
  .nil) .nil)
  (.cons (.asg (.nm 2) (.call "_law_numbers" 1 fn__law_numbers (.cons (.var 1) .nil)))
  (.cons (.loop (.nm 3) (.rng1 (.bi .len (.cons (.var 2) .nil))) (.cons (.ife (.cmp .Is (.ix (.var 2) (.var 3)) .non) (.cons (.ret (.tup (.cons (.str "raised") (.cons (.var 3) .nil))))
  .nil) .nil)
  .nil))
  (.cons (.ret (.tup (.cons (.str "value") (.cons (.var 2) .nil))))
  .nil)))))
def fn__law_vector_due : Fn := retF fun ds S => runB ir__law_vector_due (startR nm__law_vector_due ds) S

theorem mt__law_vector_due : mB nm__law_vector_due (fun _ => true) (defScope (top 52)) ir__law_vector_due (defBody (top 52)) = true := by decide +kernel
def nm_read_vector : List Str := ["text", "words", "found", "place", "word", "number"]
def ir_read_vector : ISs := (.cons (.ife (.not (.isi (.var 0) ["str"])) (.cons (.rse "InvalidText" (.int 0))
  .nil) .nil)
  (.cons (.asg (.nm 1) (.meth (.split false) (.var 0) (.str ",")))
  (.cons (.ife (.cmp .Gt (.bi .len (.cons (.var 1) .nil)) (.glob "MOST_SIZE" (.int 8))) (.cons (.rse "InvalidText" (.int 0))
  .nil) .nil)
  (.cons (.asg (.nm 2) (.lst true .nil))
  (.cons (.loop (.tp [3, 4]) (.enum (.var 1)) (.cons (.asg (.nm 5) (.call "number_told" 1 fn_number_told (.cons (.var 4) .nil)))
  (.cons (.ife (.cmp .Is (.var 5) .non) (.cons (.rse "InvalidText" (.var 3))
  .nil) .nil)
  (.cons (.expr (.meth .append (.var 2) (.var 5)))
  .nil))))
  (.cons (.ret (.bi .tuple (.cons (.var 2) .nil)))
  .nil))))))
def fn_read_vector : Fn := retF fun ds S => runB ir_read_vector (startR nm_read_vector ds) S

theorem mt_read_vector : mB nm_read_vector (fun _ => true) (defScope (top 34)) ir_read_vector (defBody (top 34)) = true := by decide +kernel
def nm_vector_text : List Str := ["v"]
def ir_vector_text : ISs := (.cons (.ret (.call "joined" 3 fn_joined (.cons (.var 0) (.cons (.str ",") (.cons (.str "") .nil)))))
  .nil)
def fn_vector_text : Fn := retF fun ds S => runB ir_vector_text (startR nm_vector_text ds) S

theorem mt_vector_text : mB nm_vector_text (fun _ => true) (defScope (top 32)) ir_vector_text (defBody (top 32)) = true := by decide +kernel
def nm_checked_vector : List Str := ["v"]
def ir_checked_vector : ISs := (.cons (.ife (.not (.call "is_vector" 1 fn_is_vector (.cons (.var 0) .nil))) (.cons (.rse "InvalidVector" (.var 0))
  .nil) .nil)
  (.cons (.ret (.bi .tuple (.cons (.var 0) .nil)))
  .nil))
def fn_checked_vector : Fn := retF fun ds S => runB ir_checked_vector (startR nm_checked_vector ds) S

theorem mt_checked_vector : mB nm_checked_vector (fun _ => true) (defScope (top 20)) ir_checked_vector (defBody (top 20)) = true := by decide +kernel
def nm_write_vector : List Str := ["v"]
def ir_write_vector : ISs := (.cons (.ret (.call "vector_text" 1 fn_vector_text (.cons (.call "checked_vector" 1 fn_checked_vector (.cons (.var 0) .nil)) .nil)))
  .nil)
def fn_write_vector : Fn := retF fun ds S => runB ir_write_vector (startR nm_write_vector ds) S

theorem mt_write_vector : mB nm_write_vector (fun _ => true) (defScope (top 33)) ir_write_vector (defBody (top 33)) = true := by decide +kernel
def nm__law_vectors : List Str := ["source", "v", "j", "handed", "x", "words", "whole", "at", "low", "texts", "text", "none", "other"]
def ir__law_vectors : ISs := (.cons (.asg (.nm 1) (.lc false [("j", 2)] (.nm 2) (.rng1 (.bin false .Add (.int 1) (.call "_law_draw" 2 fn__law_draw (.cons (.var 0) (.cons (.int 8) .nil))))) .no (.call "_law_one" 1 fn__law_one (.cons (.var 0) .nil))))
  (.cons (.asg (.nm 3) (.ife (.cmp .Eq (.call "_law_draw" 2 fn__law_draw (.cons (.var 0) (.cons (.int 2) .nil))) (.int 0)) (.bi .tuple (.cons (.var 1) .nil)) (.lc false [("x", 4)] (.nm 4) (.seq (.var 1)) .no (.var 4))))
  (.cons (.asg (.nm 5) (.lc true [("x", 4)] (.nm 4) (.seq (.var 1)) .no (.bi .str (.cons (.var 4) .nil))))
  (.cons (.asg (.nm 6) (.meth .join (.str ",") (.var 5)))
  (.cons (.ife (.or (.cons (.not (.call "_law_gives" 2 fn__law_gives (.cons (.told (.call "write_vector" 1 fn_write_vector (.cons (.var 3) .nil))) (.cons (.var 6) .nil)))) (.cons (.cmp .NotEq (.lc false [("x", 4)] (.nm 4) (.seq (.var 3)) .no (.var 4)) (.var 1)) .nil))) (.cons (.ret (.bl false))
  .nil) .nil)
  (.cons (.asg (.nm 7) (.call "_law_draw" 2 fn__law_draw (.cons (.var 0) (.cons (.bi .len (.cons (.var 1) .nil)) .nil))))
  (.cons (.asg (.nm 8) (.call "_law_draw" 2 fn__law_draw (.cons (.var 0) (.cons (.bi .len (.cons (.var 1) .nil)) .nil))))
  (.cons (.asg (.nm 9) (.lst true (.cons (.var 6) (.cons (.call "_law_bent" 2 fn__law_bent (.cons (.var 0) (.cons (.var 6) .nil))) (.cons (.call "_law_bent" 2 fn__law_bent (.cons (.var 0) (.cons (.var 6) .nil))) (.cons (.bin false .Add (.var 6) (.str ",")) (.cons (.bin false .Add (.str ",") (.var 6)) (.cons (.bin false .Add (.var 6) (.str ";1")) .nil))))))))
  (.cons (.expr (.meth .append (.var 9) (.meth .join (.str ",") (.bin false .Add (.bin false .Add (.sl false (.var 5) .no (.yes (.var 7))) (.lst false (.cons (.call "_law_word" 1 fn__law_word (.cons (.var 0) .nil)) .nil))) (.sl false (.var 5) (.yes (.bin false .Add (.var 7) (.int 1))) .no)))))
  (.cons (.sub (.call "_law_word" 1 fn__law_word (.cons (.var 0) .nil)) (.var 5) (.var 8))
  (.cons (.expr (.meth .append (.var 9) (.meth .join (.str ",") (.bin false .Add (.bin false .Add (.sl false (.var 5) .no (.yes (.var 7))) (.lst false (.cons (.call "_law_word" 1 fn__law_word (.cons (.var 0) .nil)) .nil))) (.sl false (.var 5) (.yes (.bin false .Add (.var 7) (.int 1))) .no)))))
  (.cons (.expr (.meth .append (.var 9) (.meth .join (.str ",") (.bin false .Add (.bin false .Add (.var 5) (.lst false (.cons (.call "_law_word" 1 fn__law_word (.cons (.var 0) .nil)) .nil))) (.var 5)))))
  (.cons (.loop (.nm 10) (.seq (.var 9)) (.cons (.ife (.not (.call "_law_fits" 2 fn__law_fits (.cons (.told (.call "read_vector" 1 fn_read_vector (.cons (.var 10) .nil))) (.cons (.call "_law_vector_due" 1 fn__law_vector_due (.cons (.var 10) .nil)) .nil)))) (.cons (.ret (.bl false))
  .nil) .nil)
  .nil))
  (.cons (.asg (.nm 11) (.ix (.tup (.cons (.tup .nil) (.cons (.bin false .Mult (.tup (.cons (.int 1) .nil)) (.int 9)) (.cons (.tup (.cons (.int 1) (.cons (.bl true) .nil))) (.cons (.tup (.cons (.int 1000001) (.cons (.int 1) .nil))) (.cons (.tup (.cons (.tup (.cons (.int 1) (.cons (.int 0) .nil))) (.cons (.tup (.cons (.int 0) (.cons (.int 1) .nil))) .nil))) (.cons (.int 5) (.cons .non (.cons (.str "1,2") .nil))))))))) (.call "_law_draw" 2 fn__law_draw (.cons (.var 0) (.cons (.int 8) .nil)))))
  (.cons (.ife (.not (.call "_law_raises" 3 fn__law_raises (.cons (.told (.call "write_vector" 1 fn_write_vector (.cons (.var 11) .nil))) (.cons (.str "InvalidVector") (.cons (.var 11) .nil))))) (.cons (.ret (.bl false))
  .nil) .nil)
  (.cons (.asg (.nm 12) (.ix (.tup (.cons (.int 5) (.cons .non (.cons (.bl false) (.cons (.tup (.cons (.str "1") (.cons (.str "2") .nil))) (.cons (.bi .tuple (.cons (.var 1) .nil)) .nil)))))) (.call "_law_draw" 2 fn__law_draw (.cons (.var 0) (.cons (.int 5) .nil)))))
  (.cons (.ret (.call "_law_raises" 3 fn__law_raises (.cons (.told (.call "read_vector" 1 fn_read_vector (.cons (.var 12) .nil))) (.cons (.str "InvalidText") (.cons (.int 0) .nil)))))
  .nil)))))))))))))))))
def fn__law_vectors : Fn := retF fun ds S => runB ir__law_vectors (startR nm__law_vectors ds) S

theorem mt__law_vectors : mB nm__law_vectors (fun _ => true) (defScope (top 59)) ir__law_vectors (defBody (top 59)) = true := by decide +kernel
def nm_law : List Str := ["script", "source"]
def ir_law : ISs := (.cons (.asg (.nm 1) (.call "_law_begin" 1 fn__law_begin (.cons (.var 0) .nil)))
  (.cons (.ife (.or (.cons (.not (.call "_law_matrices" 1 fn__law_matrices (.cons (.var 1) .nil))) (.cons (.not (.call "_law_vectors" 1 fn__law_vectors (.cons (.var 1) .nil))) .nil))) (.cons (.ret (.bl false))
  .nil) .nil)
  (.cons (.ret (.call "_law_types" 1 fn__law_types (.cons (.var 1) .nil)))
  .nil)))
def fn_law : Fn := retF fun ds S => runB ir_law (startR nm_law ds) S

theorem mt_law : mB nm_law (fun _ => true) (defScope (top 61)) ir_law (defBody (top 61)) = true := by decide +kernel
end Z


set_option Elab.async false
set_option linter.all false
set_option maxRecDepth 100000
set_option maxHeartbeats 4000000
namespace Z
open PySem PySem.Spec PyProof.Rows L2

/-! ## reckoning at the data level -/
section
variable {ρ : Rho} {S : Store}
@[simp] theorem bnd_ite {α β : Type} {c : Prop} [Decidable c] {a b : M α} {k : α → Store → M β} : bnd (if c then a else b) k = if c then bnd a k else bnd b k := by split <;> rfl
@[simp] theorem pur_eq {α : Type} {a b : α} {S T : Store} : (pur a S = pur b T) = (a = b ∧ S = T) := by
  simp [pur]
@[simp] theorem re_var (i : Nat) : runE ρ (.var i) S = varD i ρ S := rfl
@[simp] theorem re_int (i : Int) : runE ρ (.int i) S = pur (.int i) S := rfl
@[simp] theorem re_bl (i : Bool) : runE ρ (.bl i) S = pur (.bl i) S := rfl
@[simp] theorem re_non : runE ρ .non S = pur .non S := rfl
@[simp] theorem re_str (i : Str) : runE ρ (.str i) S = pur (.str i) S := rfl
@[simp] theorem re_glob (x : Str) (d : D) : runE ρ (.glob x d) S = pur d S := rfl
@[simp] theorem re_tup (es : IEs) : runE ρ (.tup es) S = bnd (runEs ρ es S) tupD := rfl
@[simp] theorem re_lstT (es : IEs) : runE ρ (.lst true es) S = bnd (runEs ρ es S) ptrD := rfl
@[simp] theorem re_lstF (es : IEs) : runE ρ (.lst false es) S = bnd (runEs ρ es S) lstD := rfl
@[simp] theorem re_bin (m : Bool) (op : Operator) (a b : IE) : runE ρ (.bin m op a b) S = bnd (runE ρ a S) fun x S1 => bnd (runE ρ b S1) fun y S2 => lft (binD m op x y S2) := rfl
@[simp] theorem re_cmp (op : CmpOp) (a b : IE) : runE ρ (.cmp op a b) S = bnd (runE ρ a S) fun x S1 => bnd (runE ρ b S1) fun y S2 => lft (cmpD op x y S2) := rfl
@[simp] theorem re_chn (op op' : CmpOp) (a b c : IE) : runE ρ (.chn op op' a b c) S = bnd (runE ρ a S) fun x S1 => bnd (runE ρ b S1) fun y S2 => bnd (lft ((cmpO op x y S2).map fun k => (k, S2))) fun k S3 => if k = true then bnd (runE ρ c S3) fun z S4 => lft ((cmpO op' y z S4).map fun k => (.bl k, S4)) else pur (.bl false) S3 := rfl
@[simp] theorem re_and (es : IEs) : runE ρ (.and es) S = andE ρ es S := rfl
@[simp] theorem re_or (es : IEs) : runE ρ (.or es) S = orE ρ es S := rfl
@[simp] theorem re_not (a : IE) : runE ρ (.not a) S = bnd (runE ρ a S) notD := rfl
@[simp] theorem re_neg (a : IE) : runE ρ (.neg a) S = bnd (runE ρ a S) negD := rfl
@[simp] theorem re_ife (c a b : IE) : runE ρ (.ife c a b) S = bnd (runT ρ c S) fun x S1 => if x = true then runE ρ a S1 else runE ρ b S1 := rfl
@[simp] theorem re_ix (a b : IE) : runE ρ (.ix a b) S = bnd (runE ρ a S) fun x S1 => bnd (runE ρ b S1) fun y S2 => ixD x y S2 := rfl
@[simp] theorem re_sl (m : Bool) (a : IE) (lo hi : IO) : runE ρ (.sl m a lo hi) S = bnd (runE ρ a S) fun x S1 => bnd (runO ρ lo S1) fun l S2 => bnd (runO ρ hi S2) fun u S3 => lft (slD m x l u S3) := rfl
@[simp] theorem re_call (x : Str) (n : Nat) (f : Fn) (es : IEs) : runE ρ (.call x n f es) S = bnd (runEs ρ es S) fun ds S1 => if ds.length = n then f ds S1 else none := rfl
@[simp] theorem re_bi (b : Bi) (es : IEs) : runE ρ (.bi b es) S = bnd (runEs ρ es S) fun ds S1 => lft (b.sem ds S1) := rfl
@[simp] theorem re_isi (e : IE) (ts : List String) : runE ρ (.isi e ts) S = bnd (runE ρ e S) fun x S1 => lft (isiD ts x S1) := rfl
@[simp] theorem re_meth (q : Me) (o e : IE) : runE ρ (.meth q o e) S = bnd (runE ρ o S) fun x S1 => if q.ck x S1 = true then bnd (runE ρ e S1) fun y S2 => lft (q.sem x [y] S2) else none := rfl
@[simp] theorem re_lc (m : Bool) (own : List (Str × Nat)) (t : Tg) (it : II) (cs : IO) (elt : IE) : runE ρ (.lc m own t it cs elt) S = bnd (runI ρ it S) (lcM m (tgM t) (fun ρ' S1 => runC ρ' cs S1) (fun ρ' S1 => runE ρ' elt S1) (wipeR ρ (own.map (·.2)))) := rfl
@[simp] theorem re_fv (e : IE) : runE ρ (.fv e) S = bnd (runE ρ e S) fun x S1 => lft (fmtD x S1) := rfl
@[simp] theorem re_fmt (es : IEs) : runE ρ (.fmt es) S = bnd (runJ ρ es Str.empty S) fun z S1 => pur (.str z) S1 := rfl
@[simp] theorem re_told (e : IE) : runE ρ (.told e) S = toldM (runE ρ e S) := rfl
@[simp] theorem res_nil : runEs ρ .nil S = pur [] S := rfl
@[simp] theorem res_cons (e : IE) (es : IEs) : runEs ρ (.cons e es) S = bnd (runE ρ e S) fun x S1 => bnd (runEs ρ es S1) fun xs S2 => pur (x :: xs) S2 := rfl
@[simp] theorem ro_no : runO ρ .no S = pur none S := rfl
@[simp] theorem ro_yes (e : IE) : runO ρ (.yes e) S = partM (runE ρ e S) := rfl
@[simp] theorem rc_no : runC ρ .no S = pur true S := rfl
@[simp] theorem rc_yes (e : IE) : runC ρ (.yes e) S = runT ρ e S := rfl
@[simp] theorem rt_cmp (op : CmpOp) (a b : IE) : runT ρ (.cmp op a b) S = bnd (runE ρ a S) fun x S1 => bnd (runE ρ b S1) fun y S2 => lft ((cmpO op x y S2).map fun k => (k, S2)) := rfl
@[simp] theorem rt_chn (op op' : CmpOp) (a b c : IE) : runT ρ (.chn op op' a b c) S = bnd (runE ρ a S) fun x S1 => bnd (runE ρ b S1) fun y S2 => bnd (lft ((cmpO op x y S2).map fun k => (k, S2))) fun k S3 => if k = true then bnd (runE ρ c S3) fun z S4 => lft ((cmpO op' y z S4).map fun k => (k, S4)) else pur false S3 := rfl
@[simp] theorem rt_not (a : IE) : runT ρ (.not a) S = notM (runT ρ a S) := rfl
@[simp] theorem rt_and (es : IEs) : runT ρ (.and es) S = andT ρ es S := rfl
@[simp] theorem rt_or (es : IEs) : runT ρ (.or es) S = orT ρ es S := rfl
@[simp] theorem rt_var (i : Nat) : runT ρ (.var i) S = bnd (varD i ρ S) truM := rfl
@[simp] theorem rt_bl (b : Bool) : runT ρ (.bl b) S = pur b S := rfl
@[simp] theorem rt_call (x : Str) (n : Nat) (f : Fn) (es : IEs) : runT ρ (.call x n f es) S = bnd (bnd (runEs ρ es S) fun ds S1 => if ds.length = n then f ds S1 else none) truM := rfl
@[simp] theorem rt_bi (b : Bi) (es : IEs) : runT ρ (.bi b es) S = bnd (bnd (runEs ρ es S) fun ds S1 => lft (b.sem ds S1)) truM := rfl
@[simp] theorem rt_isi (e : IE) (ts : List String) : runT ρ (.isi e ts) S = bnd (bnd (runE ρ e S) fun x S1 => lft (isiD ts x S1)) truM := rfl
@[simp] theorem rt_ix (a b : IE) : runT ρ (.ix a b) S = bnd (bnd (runE ρ a S) fun x S1 => bnd (runE ρ b S1) fun y S2 => ixD x y S2) truM := rfl
@[simp] theorem ae_one (e : IE) : andE ρ (.cons e .nil) S = runE ρ e S := rfl
@[simp] theorem ae_two (e f : IE) (es : IEs) : andE ρ (.cons e (.cons f es)) S = bnd (runE ρ e S) fun x S1 => asBl x fun k => if k = true then andE ρ (.cons f es) S1 else pur (.bl false) S1 := rfl
@[simp] theorem oe_one (e : IE) : orE ρ (.cons e .nil) S = runE ρ e S := rfl
@[simp] theorem oe_two (e f : IE) (es : IEs) : orE ρ (.cons e (.cons f es)) S = bnd (runE ρ e S) fun x S1 => asBl x fun k => if k = true then pur (.bl true) S1 else orE ρ (.cons f es) S1 := rfl
@[simp] theorem at_one (e : IE) : andT ρ (.cons e .nil) S = runT ρ e S := rfl
@[simp] theorem at_two (e f : IE) (es : IEs) : andT ρ (.cons e (.cons f es)) S = bnd (runT ρ e S) fun x S1 => if x = true then andT ρ (.cons f es) S1 else pur false S1 := rfl
@[simp] theorem ot_one (e : IE) : orT ρ (.cons e .nil) S = runT ρ e S := rfl
@[simp] theorem ot_two (e f : IE) (es : IEs) : orT ρ (.cons e (.cons f es)) S = bnd (runT ρ e S) fun x S1 => if x = true then pur true S1 else orT ρ (.cons f es) S1 := rfl
@[simp] theorem rj_nil (acc : Str) : runJ ρ .nil acc S = pur acc S := rfl
@[simp] theorem rj_cons (e : IE) (es : IEs) (acc : Str) : runJ ρ (.cons e es) acc S = bnd (runE ρ e S) (glue acc fun acc' S1 => runJ ρ es acc' S1) := rfl
@[simp] theorem ri_seq (e : IE) : runI ρ (.seq e) S = bnd (runE ρ e S) (wkM seqW) := rfl
@[simp] theorem ri_rng1 (e : IE) : runI ρ (.rng1 e) S = bnd (bnd (runE ρ e S) fun x S1 => pur [x] S1) rng1 := rfl
@[simp] theorem ri_enum (e : IE) : runI ρ (.enum e) S = bnd (runE ρ e S) (wkM fun x S1 => (lstW x S1).map fun w => ⟨enumD 0 w.items, w.stay⟩) := rfl
@[simp] theorem rs_pass : runS ρ .pass S = pur (.nx ρ) S := rfl
@[simp] theorem rs_expr (e : IE) : runS ρ (.expr e) S = bnd (runE ρ e S) fun _ S1 => pur (.nx ρ) S1 := rfl
@[simp] theorem rs_ret (e : IE) : runS ρ (.ret e) S = bnd (runE ρ e S) fun d S1 => pur (.rt d) S1 := rfl
@[simp] theorem rs_asg (t : Tg) (e : IE) : runS ρ (.asg t e) S = bnd (runE ρ e S) (setT t ρ) := rfl
@[simp] theorem rs_sub (e o i : IE) : runS ρ (.sub e o i) S = bnd (runE ρ e S) fun v S1 => bnd (runE ρ o S1) fun x S2 => bnd (runE ρ i S2) fun y S3 => setI ρ x y v S3 := rfl
@[simp] theorem rs_ife (c : IE) (a b : ISs) : runS ρ (.ife c a b) S = bnd (runT ρ c S) fun x S1 => if x = true then runB a ρ S1 else runB b ρ S1 := rfl
@[simp] theorem rs_loop (t : Tg) (it : II) (body : ISs) : runS ρ (.loop t it body) S = bnd (runI ρ it S) fun w S1 => forF w.stay (tgM t) (fun ρ' S' => runB body ρ' S') w.items ρ S1 := rfl
@[simp] theorem rs_rse (c : Str) (e : IE) : runS ρ (.rse c e) S = bnd (runE ρ e S) (rseM c) := rfl
@[simp] theorem rb_nil : runB .nil ρ S = pur (.nx ρ) S := rfl
@[simp] theorem rb_cons (s : IS) (r : ISs) : runB (.cons s r) ρ S = seqS (runS ρ s S) fun ρ' S' => runB r ρ' S' := rfl
@[simp] theorem ss_nx (k : Rho → Store → MS) : seqS (pur (.nx ρ) S) k = k ρ S := rfl
@[simp] theorem ss_rt (d : D) (k : Rho → Store → MS) : seqS (pur (.rt d) S) k = pur (.rt d) S := rfl
@[simp] theorem ss_err (c : Str) (d : D) (k : Rho → Store → MS) : seqS (rseM c d S) k = rseM c d S := rfl
@[simp] theorem ss_ite {c : Prop} [Decidable c] {a b : MS} {k : Rho → Store → MS} : seqS (if c then a else b) k = if c then seqS a k else seqS b k := by split <;> rfl
@[simp] theorem se_nm (i : Nat) (d : D) : setT (.nm i) ρ d S = pur (.nx (ρ.set i (some d))) S := rfl
@[simp] theorem notM_pur (b : Bool) : notM (pur b S) = pur (!b) S := rfl
@[simp] theorem notM_ite {c : Prop} [Decidable c] {a b : M Bool} : notM (if c then a else b) = if c then notM a else notM b := by split <;> rfl
@[simp] theorem partM_int (i : Int) : partM (pur (.int i) S) = pur (some i) S := rfl
@[simp] theorem asBl_bl (b : Bool) (k : Bool → M D) : asBl (.bl b) k = k b := rfl
@[simp] theorem truM_bl (b : Bool) : truM (.bl b) S = pur b S := rfl
@[simp] theorem notD_bl (b : Bool) : notD (.bl b) S = pur (.bl !b) S := rfl
@[simp] theorem told_ok (d : D) : toldM (pur d S) = pur (.tup [.str "value", d]) S := rfl
@[simp] theorem lft_ite {α : Type} {c : Prop} [Decidable c] {a b : Option (α × Store)} : lft (if c then a else b) = if c then lft a else lft b := by split <;> rfl
end
/-- a def's end -/
def fin (n : Nat) (m : MS) : M D := match m with
  | some (.ok (.rt d), S1) => lft (endD n d S1)
  | some (.ok (.nx _), S1) => lft (endD n .non S1)
  | some (.err c d, S1) => (endD n d S1).map fun q => (.err c q.1, q.2)
  | _ => none
theorem retF_fin (body : List D → Store → MS) (ds : List D) (S : Store) : retF body ds S = fin S.length (body ds S) := rfl
theorem fin_rt {n : Nat} {d : D} {S : Store} (h : S.length = n) : fin n (pur (.rt d) S) = pur d S := by simp [fin, pur, endD, h]
theorem fin_nx {n : Nat} {ρ : Rho} {S : Store} (h : S.length = n) : fin n (pur (.nx ρ) S) = pur .non S := by simp [fin, pur, endD, h]
theorem fin_err {n : Nat} {c : Str} {d : D} {S : Store} (h : S.length = n) : fin n (rseM c d S) = some (.err c d, S) := by simp [fin, rseM, endD, h]
@[simp] theorem fin_rtS {d : D} {S : Store} : fin S.length (pur (.rt d) S) = pur d S := fin_rt rfl
@[simp] theorem fin_nxS {ρ : Rho} {S : Store} : fin S.length (pur (.nx ρ) S) = pur .non S := fin_nx rfl
@[simp] theorem fin_errS {c : Str} {d : D} {S : Store} : fin S.length (rseM c d S) = some (.err c d, S) := fin_err rfl
@[simp] theorem fin_ite {n : Nat} {c : Prop} [Decidable c] {a b : MS} : fin n (if c then a else b) = if c then fin n a else fin n b := by split <;> rfl
/-- a def's end, its own lists frozen -/
theorem fin_cut {n : Nat} {d d' : D} {S : Store} (h1 : (S.take n).all (okO n) = true) (h2 : frzD n S 6 d = some d') (h : n < S.length) : fin n (pur (.rt d) S) = pur d' (S.take n) := by
  have e' : (S.length == n) = false := by simpa using Nat.ne_of_gt h
  simp [fin, pur, endD, e', h1, h2]
/-! ### comprehensions -/
theorem lcF_map {stay : Store → Bool} {tg : D → Store → Rho → Option Rho} {cond : Rho → Store → M Bool} {elt : Rho → Store → M D} {ρ : Rho} {S : Store} (hs : stay S = true) (f : D → D) : ∀ (items : List D),
    (∀ d ∈ items, ∃ ρ', tg d S ρ = some ρ' ∧ cond ρ' S = pur true S ∧ elt ρ' S = pur (f d) S) → lcF stay tg cond elt ρ items S = some (items.map f, S)
  | [], _ => by simp [lcF, hs]
  | d :: r, h => by
    obtain ⟨ρ', h1, h2, h3⟩ := h d List.mem_cons_self
    simp only [lcF, hs, if_true, h1, h2, h3, pur]
    rw [lcF_map hs f r fun x hx => h x (List.mem_cons_of_mem _ hx)]
    simp
theorem lcM_map {m : Bool} {tg : D → Store → Rho → Option Rho} {cond : Rho → Store → M Bool} {elt : Rho → Store → M D} {ρ : Rho} {S : Store} {w : Wk} (f : D → D) (hs : w.stay S = true) (hf : fits w.items.length = true)
    (h : ∀ d ∈ w.items, ∃ ρ', tg d S ρ = some ρ' ∧ cond ρ' S = pur true S ∧ elt ρ' S = pur (f d) S) : lcM m tg cond elt ρ w S = if m then pur (.ptr S.length) (S ++ [.lst (w.items.map f)]) else pur (.lst (w.items.map f)) S := by
  unfold lcM
  rw [if_pos hf, lcF_map hs f _ h]
  simp only [mk, List.length_map, hf, if_true]
  split <;> rfl
/-- .. that change the store -/
theorem lcF_inv {stay : Store → Bool} {tg : D → Store → Rho → Option Rho} {cond : Rho → Store → M Bool} {elt : Rho → Store → M D} {ρ : Rho} (I : Store → Prop) (P : D → Prop) : ∀ (items : List D),
    (∀ S, I S → stay S = true) → (∀ d ∈ items, ∀ S, I S → ∃ ρ', tg d S ρ = some ρ' ∧ cond ρ' S = pur true S ∧ ∃ v S', elt ρ' S = pur v S' ∧ I S' ∧ P v) → ∀ S, I S →
    ∃ vs S', lcF stay tg cond elt ρ items S = some (vs, S') ∧ vs.length = items.length ∧ (∀ v ∈ vs, P v) ∧ I S'
  | [], hs, _, S, hI => ⟨[], S, by simp [lcF, hs S hI], rfl, by simp, hI⟩
  | d :: r, hs, h, S, hI => by
    obtain ⟨ρ', h1, h2, v, S1, h3, h4, h5⟩ := h d List.mem_cons_self S hI
    obtain ⟨vs, S2, k1, k2, k3, k4⟩ := lcF_inv I P r hs (fun x hx => h x (List.mem_cons_of_mem _ hx)) S1 h4
    refine ⟨v :: vs, S2, ?_, by simp [k2], fun x hx => ?_, k4⟩
    · simp only [lcF, hs S hI, if_true, h1, h2, h3, pur, k1]
      rfl
    · rcases List.mem_cons.mp hx with rfl | hx
      · exact h5
      · exact k3 x hx
theorem lcM_inv {tg : D → Store → Rho → Option Rho} {cond : Rho → Store → M Bool} {elt : Rho → Store → M D} {ρ : Rho} {S : Store} {w : Wk} (I : Store → Prop) (P : D → Prop) (hf : fits w.items.length = true) (hs : ∀ S, I S → w.stay S = true)
    (h : ∀ d ∈ w.items, ∀ S, I S → ∃ ρ', tg d S ρ = some ρ' ∧ cond ρ' S = pur true S ∧ ∃ v S', elt ρ' S = pur v S' ∧ I S' ∧ P v) (hI : I S) :
    ∃ vs S', lcM false tg cond elt ρ w S = pur (.lst vs) S' ∧ vs.length = w.items.length ∧ (∀ v ∈ vs, P v) ∧ I S' := by
  obtain ⟨vs, S', k1, k2, k3, k4⟩ := lcF_inv I P w.items hs h S hI
  refine ⟨vs, S', ?_, k2, k3, k4⟩
  unfold lcM
  rw [if_pos hf, k1]
  simp [mk, k2, hf]
end Z


set_option Elab.async false
set_option linter.all false
set_option maxRecDepth 100000
set_option maxHeartbeats 4000000
namespace Z
open PySem PySem.Spec PyProof.Rows L2
section
variable {ρ : Rho} {S : Store}
@[simp] theorem eqO_int (i j : Int) : eqO (.int i) (.int j) S = some (i == j) := by simp [eqO, pyD, SeqAt.shaped, PyData.canLay0, PyData.depth, PyData.eqv]
@[simp] theorem fin_rtC {d : D} {o : O} {L : Store} : fin (L.length + 1) (pur (.rt d) (o :: L)) = pur d (o :: L) := fin_rt rfl
end
/-- the source of drawn numbers -/
def src (cells : List Int) (p q r : Int) : O := .lst [.lst (cells.map .int), .int p, .int q, .int r]
def Src (o : O) : Prop := ∃ cells p q r, o = src cells p q r ∧ 0 ≤ p
theorem fmod_in {a m : Int} (h : 0 < m) : 0 ≤ a.fmod m ∧ a.fmod m < m := ⟨Int.fmod_nonneg_of_pos a h, Int.fmod_lt_of_pos a h⟩
theorem mul_lit (i : Int) {j : Int} (h : j.natAbs < 18446744073709551616) : mulOk i j = true := by simp [mulOk, h]
theorem draw_spec {o : O} (ho : Src o) {L : Store} {m : Int} (h1 : 1 ≤ m) (h2 : m < 1000000000) : ∃ v o', fn__law_draw [.ptr 0, .int m] (o :: L) = pur (.int v) (o' :: L) ∧ Src o' ∧ 0 ≤ v ∧ v < m := by
  obtain ⟨cells, p, q, r, rfl, hp⟩ := ho
  have hm0 : m ≠ 0 := by omega
  have hlog : m.natAbs.log2 < 9000 := Nat.lt_of_lt_of_le ((Nat.log2_lt (by omega)).mpr (by omega : m.natAbs < 2 ^ 30)) (by decide)
  rw [fn__law_draw, retF_fin]
  simp only [ir__law_draw, startR, nm__law_draw]
  by_cases hq : 0 < q
  · simp [src, varD, ixD, itsD, atI, ixN, cmpO, ltO, hq, intD, Bi.sem, binD, modD, divD, hm0, hlog, setI]
    exact ⟨_, _, ⟨rfl, rfl⟩, ⟨cells, p, _, r, rfl, hp⟩, fmod_in (by omega)⟩
  · have key : ∀ c : Int, ∃ v o', fin (L.length + 1) (runB (.cons (.sub (.bin false .Add (.ix (.var 0) (.int 1)) (.int 1)) (.var 0) (.int 1))
  (.cons (.ife (.cmp .GtE (.var 3) (.int 1000000000000000000)) (.cons (.sub (.bin false .FloorDiv (.var 3) (.var 1)) (.var 0) (.int 2))
  (.cons (.ret (.bin false .Mod (.bi .int (.cons (.var 3) .nil)) (.var 1)))
  .nil)) .nil)
  (.cons (.asg (.nm 4) (.bin false .Mod (.bi .int (.cons (.bin false .Add (.bin false .Add (.ix (.var 0) (.int 3)) (.bin false .Mult (.var 3) (.int 40503))) (.bin false .Mult (.ix (.var 0) (.int 1)) (.int 7919))) .nil)) (.int 2305843009213693951)))
  (.cons (.asg (.nm 4) (.bin false .Mod (.bi .int (.cons (.bin false .Add (.bin false .Mult (.var 4) (.var 4)) (.int 1442695040888963)) .nil)) (.int 2305843009213693951)))
  (.cons (.asg (.nm 4) (.bin false .Mod (.bi .int (.cons (.bin false .Add (.bin false .Mult (.var 4) (.var 4)) (.int 6364136223846793)) .nil)) (.int 2305843009213693951)))
  (.cons (.sub (.var 4) (.var 0) (.int 3))
  (.cons (.ret (.bin false .Mod (.bin false .FloorDiv (.var 4) (.int 65536)) (.var 1)))
  .nil))))))) [some (.ptr 0), some (.int m), none, some (.int c), none] (src cells p q r :: L)) = pur (.int v) (o' :: L) ∧ Src o' ∧ 0 ≤ v ∧ v < m := by
      intro c
      by_cases hc : 1000000000000000000 ≤ c
      · simp [src, varD, ixD, itsD, atI, ixN, cmpO, ltO, leO, hc, intD, Bi.sem, binD, addD, modD, divD, hm0, hlog, setI]
        exact ⟨_, _, ⟨rfl, rfl⟩, ⟨cells, _, _, r, rfl, by omega⟩, fmod_in (by omega)⟩
      · have mx : ∀ a : Int, mulOk (a.fmod 2305843009213693951) (a.fmod 2305843009213693951) = true := fun a => by
          have := fmod_in (a := a) (m := 2305843009213693951) (by decide)
          exact mul_lit _ (by omega)
        have l5 : Nat.log2 65536 < 9000 := by decide
        simp [src, varD, ixD, itsD, atI, ixN, cmpO, ltO, leO, hc, intD, Bi.sem, binD, addD, mulD, modD, divD, hm0, hlog, setI, mx, mul_lit, l5]
        exact ⟨_, _, ⟨rfl, rfl⟩, ⟨cells, _, _, _, rfl, by omega⟩, fmod_in (by omega)⟩
    by_cases hl : p < cells.length
    · obtain ⟨n, rfl⟩ := Int.eq_ofNat_of_zero_le hp
      have hn : n < cells.length := by omega
      obtain ⟨v, o', e, k⟩ := key (cells[n])
      refine ⟨v, o', ?_, k⟩
      rw [← e]
      simp [src, varD, ixD, itsD, atI, ixN, cmpO, ltO, hq, intD, Bi.sem, lenD, hn]
    · obtain ⟨v, o', e, k⟩ := key 0
      refine ⟨v, o', ?_, k⟩
      rw [← e]
      simp [src, varD, ixD, itsD, atI, ixN, cmpO, ltO, hq, intD, Bi.sem, lenD, hl]
end Z


set_option Elab.async false
set_option linter.all false
set_option maxRecDepth 100000
set_option maxHeartbeats 4000000
namespace Z
open PySem PySem.Spec PyProof.Rows L2
/-! ## texts -/
/-- a text of at most n plain signs -/
def Tx (n : Nat) (z : Str) : Prop := z.length ≤ n ∧ ∀ c ∈ TL.tl z, c < 1114112
theorem Tx.mono {n m : Nat} {z : Str} (h : Tx n z) (k : n ≤ m) : Tx m z := ⟨Nat.le_trans h.1 k, h.2⟩
theorem Tx.ok {n : Nat} {z : Str} (h : Tx n z) : PyData.strOk z = true := by
  simp only [PyData.strOk, Array.all_eq_true', decide_eq_true_eq]
  intro c hc
  exact h.2 c (by simpa [TL.tl] using hc)
theorem Tx.append {n m : Nat} {a b : Str} (h : Tx n a) (k : Tx m b) : Tx (n + m) (a ++ b) := by
  refine ⟨?_, fun c hc => ?_⟩
  · rw [TL.len_tl, TL.tl_append, List.length_append, ← TL.len_tl, ← TL.len_tl]
    exact Nat.add_le_add h.1 k.1
  · rw [TL.tl_append, List.mem_append] at hc
    exact hc.elim (h.2 c) (k.2 c)
theorem Tx.cut {n : Nat} {z : Str} (h : Tx n z) (lo hi : Option Int) : Tx n (cutS z lo hi) := by
  have e : TL.tl (cutS z lo hi) = ((TL.tl z).drop (HT.sIx z.length 0 lo)).take (HT.sIx z.length z.length hi - HT.sIx z.length 0 lo) := by simp [cutS, TL.tl]
  refine ⟨?_, fun c hc => ?_⟩
  · rw [TL.len_tl, e, List.length_take, List.length_drop, ← TL.len_tl]
    have := h.1
    omega
  · rw [e] at hc
    exact h.2 c (List.mem_of_mem_drop (List.mem_of_mem_take hc))
theorem spl_in (S : List Nat) : ∀ (L : List Nat) (k : Nat) (acc : List Nat) (N : Nat) (P : Nat → Prop), acc.length + L.length ≤ N → (∀ c ∈ acc, P c) → (∀ c ∈ L, P c) →
    TL.spl S k acc L ≠ [] ∧ (TL.spl S k acc L).length ≤ L.length + 1 ∧ ∀ p ∈ TL.spl S k acc L, p.length ≤ N ∧ ∀ c ∈ p, P c
  | [], k, acc, N, P, h, ha, hl => by
    rw [TL.spl_nil]
    refine ⟨by simp, by simp, fun p hp => ?_⟩
    rw [List.mem_singleton] at hp
    subst hp
    exact ⟨by simpa using h, ha⟩
  | c :: r, k + 1, acc, N, P, h, ha, hl => by
    have e : TL.spl S (k + 1) acc (c :: r) = TL.spl S k acc r := rfl
    rw [e]
    simp only [List.length_cons] at h
    obtain ⟨h1, h2, h3⟩ := spl_in S r k acc N P (by omega) ha fun x hx => hl x (List.mem_cons_of_mem _ hx)
    exact ⟨h1, by simp only [List.length_cons]; omega, h3⟩
  | c :: r, 0, acc, N, P, h, ha, hl => by
    simp only [List.length_cons] at h
    by_cases hp : TL.pre S (c :: r) = true
    · rw [TL.spl_hit hp]
      obtain ⟨h1, h2, h3⟩ := spl_in S r (S.length - 1) [] N P (by simp; omega) (by simp) fun x hx => hl x (List.mem_cons_of_mem _ hx)
      refine ⟨by simp, by simp only [List.length_cons]; omega, fun p hm => ?_⟩
      rcases List.mem_cons.mp hm with rfl | hm
      · exact ⟨by omega, ha⟩
      · exact h3 p hm
    · rw [TL.spl_miss (by simpa using hp)]
      obtain ⟨h1, h2, h3⟩ := spl_in S r 0 (acc ++ [c]) N P (by simp; omega) (fun x hx => by
        rcases List.mem_append.mp hx with hx | hx
        · exact ha x hx
        · rw [List.mem_singleton] at hx; subst hx; exact hl _ List.mem_cons_self) fun x hx => hl x (List.mem_cons_of_mem _ hx)
      exact ⟨h1, by simp only [List.length_cons]; omega, h3⟩
theorem tx_split {n : Nat} {x y : Str} (h : Tx n x) (hy : TL.tl y ≠ []) (hk : y.cps.all (· < 256) = true) : Txt.split x y ≠ [] ∧ (Txt.split x y).length ≤ n + 1 ∧ ∀ p ∈ Txt.split x y, Tx n p := by
  have e := TL.split_spl x y hy (TL.kind_ok hk)
  obtain ⟨h1, h2, h3⟩ := spl_in (TL.tl y) (TL.tl x) 0 [] n (· < 1114112) (by rw [← TL.len_tl]; simpa using h.1) (by simp) h.2
  rw [← e] at h1 h2 h3
  refine ⟨fun z => h1 (by rw [z]; rfl), ?_, fun p hp => ?_⟩
  · rw [List.length_map, ← TL.len_tl] at h2
    have := h.1
    omega
  · obtain ⟨k1, k2⟩ := h3 (TL.tl p) (List.mem_map.mpr ⟨p, hp, rfl⟩)
    exact ⟨by rw [TL.len_tl]; exact k1, k2⟩
theorem tx_join {n k : Nat} {y : Str} (hy : Tx k y) : ∀ {l : List Str}, (∀ p ∈ l, Tx n p) → Tx (l.length * (n + k)) (Str.join y l)
  | [], _ => ⟨by simp [Str.join, Str.empty, Str.length], by simp [Str.join, Str.empty, TL.tl]⟩
  | [p], h => (h p (by simp)).mono (by simp)
  | p :: q :: r, h => by
    have e : Str.join y (p :: q :: r) = p ++ y ++ Str.join y (q :: r) := rfl
    rw [e]
    refine (((h p (by simp)).append hy).append (tx_join hy (l := q :: r) fun x hx => h x (List.mem_cons_of_mem _ hx))).mono ?_
    simp only [List.length_cons]
    rw [Nat.add_mul (r.length + 1) 1]
    omega
theorem tx_join' {n k : Nat} {y : Str} (hy : Tx k y) {l : List Str} (h : ∀ p ∈ l, Tx n p) : Tx (l.length * (n + k)) (Txt.join y l) := by
  rw [TL.join_eq]
  exact tx_join hy h
theorem tx_of (s : String) (n : Nat) (h : (Str.ofString s).length ≤ n) : Tx n (Str.ofString s) := ⟨h, fun c hc => by
  rw [TL.tl_ofString] at hc
  obtain ⟨x, _, rfl⟩ := List.mem_map.mp hc
  have := x.valid
  simp only [UInt32.isValidChar, Nat.isValidChar] at this
  show x.val.toNat < 1114112
  omega⟩
theorem tx_its {i : Int} {k : Nat} (hk : 0 < k) (h : i.natAbs < 10 ^ k) : Tx (k + 1) (its i) := by
  refine tx_of _ _ ?_
  rw [TL.len_tl, TL.tl_ofString, List.length_map]
  cases i with
  | ofNat n =>
    have e := TL.tl_num n
    have l := TL.numL_len hk (n := n) h
    rw [TL.tl_ofString] at e
    have := congrArg List.length e
    rw [List.length_map] at this
    have e2 : toString (Int.ofNat n) = toString ((n : Nat) : Int) := rfl
    rw [e2]
    omega
  | negSucc n =>
    have e := TL.tl_num (n + 1)
    have l := TL.numL_len hk (n := n + 1) h
    rw [TL.tl_ofString] at e
    have := congrArg List.length e
    rw [List.length_map] at this
    have e2 : toString (Int.negSucc n) = "-" ++ toString (((n + 1 : Nat)) : Int) := rfl
    rw [e2, String.toList_append, List.length_append]
    have : ("-" : String).toList.length = 1 := rfl
    omega
@[simp] theorem eqO_str {n m : Nat} {S : Store} {a b : Str} (ha : Tx n a) (hb : Tx m b) : eqO (.str a) (.str b) S = some (decide (a = b)) := by
  simp [eqO, pyD, SeqAt.shaped, PyData.canLay0, PyData.depth, PyData.eqv, ha.ok, hb.ok]
  rw [Bool.eq_iff_iff]
  simp
end Z


set_option Elab.async false
set_option linter.all false
set_option maxRecDepth 100000
set_option maxHeartbeats 4000000
namespace Z
open PySem PySem.Spec PyProof.Rows L2
theorem lc_of {α : Type} {m : Bool} {tg : D → Store → Rho → Option Rho} {cond : Rho → Store → M Bool} {elt : Rho → Store → M D} {ρ : Rho} {S : Store} {w : Wk} (l : List α) (g f : α → D) (hw : w.items = l.map g) (hs : w.stay S = true) (hf : fits l.length = true)
    (h : ∀ x ∈ l, ∃ ρ', tg (g x) S ρ = some ρ' ∧ cond ρ' S = pur true S ∧ elt ρ' S = pur (f x) S) : lcM m tg cond elt ρ w S = if m then pur (.ptr S.length) (S ++ [.lst (l.map f)]) else pur (.lst (l.map f)) S := by
  have key : ∀ l : List α, (∀ x ∈ l, ∃ ρ', tg (g x) S ρ = some ρ' ∧ cond ρ' S = pur true S ∧ elt ρ' S = pur (f x) S) → lcF w.stay tg cond elt ρ (l.map g) S = some (l.map f, S) := by
    intro l
    induction l with
    | nil => intro _; simp [lcF, hs]
    | cons x r ih =>
      intro h
      obtain ⟨ρ', h1, h2, h3⟩ := h x List.mem_cons_self
      simp only [List.map_cons, lcF, hs, if_true, h1, h2, h3, pur]
      rw [ih fun y hy => h y (List.mem_cons_of_mem _ hy)]
      rfl
  unfold lcM
  rw [hw, List.length_map, if_pos hf, key l h]
  simp only [mk, List.length_map, hf, if_true]
  split <;> rfl
theorem asBls_map {α : Type} (f : α → Bool) : ∀ l : List α, asBls (l.map fun x => D.bl (f x)) = some (l.map f)
  | [] => rfl
  | x :: r => by
    show asBls (D.bl (f x) :: r.map fun x => D.bl (f x)) = _
    simp [asBls, asBls_map f r]
theorem asStrs_map {α : Type} (f : α → Str) : ∀ l : List α, asStrs (l.map fun x => D.str (f x)) = some (l.map f)
  | [] => rfl
  | x :: r => by
    show asStrs (D.str (f x) :: r.map fun x => D.str (f x)) = _
    simp [asStrs, asStrs_map f r]
theorem fits_le {n : Nat} (h : n ≤ 16777216) : fits n = true := by simpa [fits] using h
theorem Tx.fits {n : Nat} {z : Str} (h : Tx n z) (k : n ≤ 16777216) : fits z.length = true := fits_le (Nat.le_trans h.1 k)
theorem tx_one {n c : Nat} {z : Str} (h : Tx n z) (hc : c ∈ TL.tl z) : Tx 1 ⟨#[c]⟩ := ⟨by simp [Str.length], fun d hd => by
  simp [TL.tl] at hd
  subst hd
  exact h.2 _ hc⟩
/-! ## numbers in texts -/
def bo (z : Str) : Str := if cutS z none (some 1) == "-" then cutS z (some 1) none else z
def dg (b : Str) : Bool := (TL.tl b).all fun c => decide (c ∈ TL.tl "0123456789")
def hd (b : Str) : Str := ⟨#[(TL.tl b).headD 0]⟩
def nD : Option Int → D
  | none => .non
  | some i => .int i
def nt (z : Str) : Option Int := if ((1 : Int) ≤ (bo z).length ∧ ((bo z).length : Int) ≤ 7) ∧ dg (bo z) = true then (if ((1 : Int) < (bo z).length ∧ hd (bo z) = "0") ∨ z = "-0" then none
  else if -1000000 ≤ (intText? z).getD 0 ∧ (intText? z).getD 0 ≤ 1000000 then some ((intText? z).getD 0) else none) else none
theorem Tx.bo {n : Nat} {z : Str} (h : Tx n z) : Tx n (bo z) := by
  unfold Z.bo
  split
  · exact h.cut _ _
  · exact h
theorem bo_int {z : Str} (h1 : 1 ≤ (bo z).length) (h2 : (bo z).length ≤ 7) (h3 : dg (bo z) = true) : ∃ v, intText? z = some v ∧ z.length ≤ 8 ∧ (1 < z.length ↔ 1 < (bo z).length ∨ cutS z none (some 1) == "-") := by
  have hdig : NumText.AllDigits (TL.tl (bo z)) := fun c hc => by
    have := List.all_eq_true.mp h3 c hc
    have e : TL.tl ("0123456789" : Str) = [48, 49, 50, 51, 52, 53, 54, 55, 56, 57] := by decide +kernel
    rw [e] at this
    simp at this
    omega
  have hne : TL.tl (bo z) ≠ [] := fun z' => by
    rw [TL.len_tl, z'] at h1
    simp at h1
  unfold bo at h1 h2 hdig hne ⊢
  split at h1
  · rename_i hc
    rw [if_pos hc] at h2 hdig hne ⊢
    have e0 : TL.tl z = 45 :: TL.tl (cutS z (some 1) none) := by
      have hc' := eq_of_beq hc
      have e1 := congrArg TL.tl hc'
      have e2 : TL.tl ("-" : Str) = [45] := by decide +kernel
      have hl := TL.len_tl z
      rw [e2] at e1
      simp only [cutS, TL.tl, HT.sIx] at e1 ⊢
      simp only [TL.tl] at hl
      cases e3 : z.cps.toList with
      | nil => rw [e3] at e1; simp at e1
      | cons c r =>
        rw [e3] at e1 hl
        simp only [List.length_cons] at hl
        have hm : min (1 : Int).toNat z.length = 1 := by rw [hl]; simp
        simp [hm] at e1 ⊢
        have hm2 : min 1 z.length = 1 := by rw [hl]; omega
        rw [hm2] at e1 ⊢
        simp at e1
        simp [e1, hl]
    have hl := TL.len_tl z
    rw [e0] at hl
    simp only [List.length_cons, ← TL.len_tl] at hl
    refine ⟨_, intText_neg e0 hdig hne (by omega), by omega, ?_⟩
    simp [hc]
    omega
  · rename_i hc
    rw [if_neg hc] at h2 hdig hne ⊢
    refine ⟨_, intText_digits hdig hne (by omega), by omega, ?_⟩
    simp [hc]
end Z


set_option Elab.async false
set_option linter.all false
set_option maxRecDepth 100000
set_option maxHeartbeats 4000000
namespace Z
open PySem PySem.Spec PyProof.Rows L2
section
variable {ρ : Rho} {S : Store} {n : Nat}
@[simp] theorem var_0 {d : D} : varD 0 (some d :: ρ) S = pur d S := rfl
@[simp] theorem var_s {x : Option D} {i : Nat} : varD (i + 1) (x :: ρ) S = varD i ρ S := rfl
@[simp] theorem cmp_eq (x y : D) : cmpO .Eq x y S = eqO x y S := rfl
@[simp] theorem cmp_ne (x y : D) : cmpO .NotEq x y S = (eqO x y S).map (!·) := rfl
@[simp] theorem cmp_lt (x y : D) : cmpO .Lt x y S = ltO x y := rfl
@[simp] theorem cmp_gt (x y : D) : cmpO .Gt x y S = ltO y x := rfl
@[simp] theorem cmp_le (x y : D) : cmpO .LtE x y S = leO x y := rfl
@[simp] theorem cmp_ge (x y : D) : cmpO .GtE x y S = leO y x := rfl
@[simp] theorem cmp_is (x : D) : cmpO .Is x .non S = some (isNonD x) := rfl
@[simp] theorem cmp_isn (x : D) : cmpO .IsNot x .non S = some (!isNonD x) := rfl
@[simp] theorem cmp_in (x y : D) : cmpO .In x y S = inO x y S := rfl
@[simp] theorem cmp_nin (x y : D) : cmpO .NotIn x y S = (inO x y S).map (!·) := rfl
@[simp] theorem cmpD_eq (op : CmpOp) (x y : D) : cmpD op x y S = (cmpO op x y S).map fun b => (.bl b, S) := rfl
@[simp] theorem lt_int (i j : Int) : ltO (.int i) (.int j) = some (decide (i < j)) := rfl
@[simp] theorem le_int (i j : Int) : leO (.int i) (.int j) = some (decide (i ≤ j)) := rfl
@[simp] theorem nonD_non : isNonD .non = true := rfl
@[simp] theorem nonD_int (i : Int) : isNonD (.int i) = false := rfl
@[simp] theorem nonD_tup (i : List D) : isNonD (.tup i) = false := rfl
@[simp] theorem bi_all {ds : List D} : Bi.all.sem ds S = allD ds S := rfl
@[simp] theorem bi_any {ds : List D} : Bi.any.sem ds S = anyD ds S := rfl
@[simp] theorem bi_len {ds : List D} : Bi.len.sem ds S = lenD ds S := rfl
@[simp] theorem bi_int {ds : List D} : Bi.int.sem ds S = intD ds S := rfl
@[simp] theorem bi_abs {ds : List D} : Bi.abs.sem ds S = absD ds S := rfl
@[simp] theorem bi_str {ds : List D} : Bi.str.sem ds S = strD ds S := rfl
@[simp] theorem bi_tuple {ds : List D} : Bi.tuple.sem ds S = tupleD ds S := rfl
@[simp] theorem bin_add (m : Bool) (x y : D) : binD m .Add x y S = addD m x y S := rfl
@[simp] theorem bin_sub (m : Bool) (x y : D) : binD m .Sub x y S = subD x y S := rfl
@[simp] theorem bin_mul (m : Bool) (x y : D) : binD m .Mult x y S = mulD m x y S := rfl
@[simp] theorem bin_div (m : Bool) (x y : D) : binD m .FloorDiv x y S = divD x y S := rfl
@[simp] theorem bin_mod (m : Bool) (x y : D) : binD m .Mod x y S = modD x y S := rfl
@[simp] theorem bin_pow (m : Bool) (x y : D) : binD m .Pow x y S = powD x y S := rfl
@[simp] theorem add_int (m : Bool) (i j : Int) : addD m (.int i) (.int j) S = some (.int (i + j), S) := rfl
@[simp] theorem add_tup (m : Bool) (i j : List D) : addD m (.tup i) (.tup j) S = if fits (i.length + j.length) then some (.tup (i ++ j), S) else none := rfl
@[simp] theorem add_str (m : Bool) (i j : Str) : addD m (.str i) (.str j) S = if fits (i.length + j.length) then some (.str (i ++ j), S) else none := rfl
@[simp] theorem add_lst (m : Bool) (i j : List D) : addD m (.lst i) (.lst j) S = mk m (i ++ j) S := rfl
@[simp] theorem mk_f (ds : List D) : mk false ds S = if fits ds.length then some (.lst ds, S) else none := rfl
@[simp] theorem mk_t (ds : List D) : mk true ds S = if fits ds.length then some (.ptr S.length, S ++ [.lst ds]) else none := rfl
@[simp] theorem abs_int (i : Int) : absD [.int i] S = some (.int (if i < 0 then -i else i), S) := rfl
@[simp] theorem len_str (z : Str) : lenD [.str z] S = if fits z.length then some (.int z.length, S) else none := rfl
@[simp] theorem len_tup (ds : List D) : lenD [.tup ds] S = some (.int ds.length, S) := rfl
@[simp] theorem len_lst (ds : List D) : lenD [.lst ds] S = some (.int ds.length, S) := rfl
@[simp] theorem tuple_tup (ds : List D) : tupleD [.tup ds] S = some (.tup ds, S) := rfl
@[simp] theorem tuple_lst (ds : List D) : tupleD [.lst ds] S = some (.tup ds, S) := rfl
@[simp] theorem neg_int (i : Int) : negD (.int i) S = pur (.int (-i)) S := rfl
@[simp] theorem allD_lst {α : Type} (f : α → Bool) (l : List α) : allD [.lst (l.map fun x => D.bl (f x))] S = some (.bl (l.all f), S) := by
  simp only [allD, oneList, seqD, Option.bind_some, asBls_map, Option.map_some, List.all_map]
  rfl
@[simp] theorem anyD_lst {α : Type} (f : α → Bool) (l : List α) : anyD [.lst (l.map fun x => D.bl (f x))] S = some (.bl (l.any f), S) := by
  simp only [anyD, oneList, seqD, Option.bind_some, asBls_map, Option.map_some, List.any_map]
  rfl
@[simp] theorem sw_str (z : Str) : seqW (.str z) S = some ⟨(TL.tl z).map fun c => .str ⟨#[c]⟩, fun _ => true⟩ := rfl
@[simp] theorem sw_tup (ds : List D) : seqW (.tup ds) S = some ⟨ds, fun _ => true⟩ := rfl
@[simp] theorem sw_lst (ds : List D) : seqW (.lst ds) S = some ⟨ds, fun _ => true⟩ := rfl
@[simp] theorem wk_some (f : D → Store → Option Wk) (x : D) : wkM f x S = (f x S).elim none fun w => pur w S := rfl
@[simp] theorem sl_str (m : Bool) (z : Str) (lo hi : Option Int) : slD m (.str z) lo hi S = if fits z.length then some (.str (cutS z lo hi), S) else none := rfl
theorem st_nx {s : IS} {r : ISs} {ρ' : Rho} {S' : Store} {X : M D} (h : runS ρ s S = pur (.nx ρ') S') (k : fin n (runB r ρ' S') = X) : fin n (runB (.cons s r) ρ S) = X := by
  rw [rb_cons, h, ss_nx, k]
theorem st_rt {s : IS} {r : ISs} {d : D} {S' : Store} {X : M D} (h : runS ρ s S = pur (.rt d) S') (k : fin n (pur (.rt d) S') = X) : fin n (runB (.cons s r) ρ S) = X := by
  rw [rb_cons, h, ss_rt, k]
theorem st_err {s : IS} {r : ISs} {c : Str} {d : D} {S' : Store} {X : M D} (h : runS ρ s S = rseM c d S') (k : fin n (rseM c d S') = X) : fin n (runB (.cons s r) ρ S) = X := by
  rw [rb_cons, h, ss_err, k]
theorem if_t {c : IE} {A B : ISs} {S' : Store} {X : MS} (h : runT ρ c S = pur true S') (k : runB A ρ S' = X) : runS ρ (.ife c A B) S = X := by
  rw [rs_ife, h, bnd_pur, if_pos rfl, k]
theorem if_f {c : IE} {A B : ISs} {S' : Store} {X : MS} (h : runT ρ c S = pur false S') (k : runB B ρ S' = X) : runS ρ (.ife c A B) S = X := by
  rw [rs_ife, h, bnd_pur, if_neg (by decide), k]
end
theorem is_number_int (i : Int) (S : Store) : fn_is_number [.int i] S = pur (.bl true) S := by
  simp [fn_is_number, retF_fin, ir_is_number, startR, nm_is_number, isiD, tyN, subT, truD]
@[simp] theorem is_from_to_int (v l m : Int) (S : Store) : fn_is_from_to [.int v, .int l, .int m] S = pur (.bl (decide (l ≤ v) && decide (v ≤ m))) S := by
  simp [fn_is_from_to, retF_fin, ir_is_from_to, startR, nm_is_from_to, is_number_int]
  by_cases h : l ≤ v <;> simp [h]
theorem tx_lit (s : String) (h : (Str.ofString s).length ≤ 100) : Tx 100 (Str.ofString s) := tx_of s 100 h
theorem hd_tx {n : Nat} {z : Str} (h : Tx n z) : Tx 1 (hd z) := ⟨by simp [hd, Str.length], fun c hc => by
  simp [hd, TL.tl] at hc
  subst hc
  cases e : z.cps.toList with
  | nil => simp
  | cons c r => exact h.2 c (by simp [TL.tl, e])⟩
theorem ix_hd {S : Store} {b : Str} (h : 1 ≤ b.length) (hf : fits b.length = true) : ixD (.str b) (.int 0) S = pur (.str (hd b)) S := by
  rw [TL.len_tl] at h
  cases e : b.cps.toList with
  | nil => simp [TL.tl, e] at h
  | cons c r => simp [ixD, hf, atI, ixN, hd, TL.tl, e]
theorem in_digits {c : Nat} {S : Store} : inO (.str ⟨#[c]⟩) (.str "0123456789") S = some (decide (c ∈ TL.tl "0123456789")) := by simp [inO, TL.tl]
theorem lc_dig {n : Nat} {b : Str} {S : Store} {ρ : Rho} {i : Nat} (hb : Tx n b) (hn : n ≤ 16777216) (hl : i < ρ.length) : lcM false (tgM (.nm i)) (fun ρ' S1 => pur true S1) (fun ρ' S1 => bnd (varD i ρ' S1) fun x S2 => lft ((inO x (.str "0123456789") S2).map fun k => (.bl k, S2))) ρ ⟨(TL.tl b).map fun c => .str ⟨#[c]⟩, fun _ => true⟩ S
    = pur (.lst ((TL.tl b).map fun c => .bl (decide (c ∈ TL.tl "0123456789")))) S := by
  rw [lc_of (TL.tl b) (fun c => .str ⟨#[c]⟩) (fun c => .bl (decide (c ∈ TL.tl "0123456789"))) rfl rfl (by rw [← TL.len_tl]; exact hb.fits hn)]
  · rfl
  · intro c hc
    refine ⟨_, rfl, rfl, ?_⟩
    simp [varD, hl, in_digits]
theorem lc_ndig {n : Nat} {b : Str} {S : Store} {ρ : Rho} {i : Nat} (hb : Tx n b) (hn : n ≤ 16777216) (hl : i < ρ.length) : lcM false (tgM (.nm i)) (fun ρ' S1 => pur true S1) (fun ρ' S1 => bnd (varD i ρ' S1) fun x S2 => lft ((inO x (.str "0123456789") S2).map ((fun k => (D.bl k, S2)) ∘ fun x => !x))) ρ ⟨(TL.tl b).map fun c => .str ⟨#[c]⟩, fun _ => true⟩ S
    = pur (.lst ((TL.tl b).map fun c => .bl (!decide (c ∈ TL.tl "0123456789")))) S := by
  rw [lc_of (TL.tl b) (fun c => .str ⟨#[c]⟩) (fun c => .bl (!decide (c ∈ TL.tl "0123456789"))) rfl rfl (by rw [← TL.len_tl]; exact hb.fits hn)]
  · rfl
  · intro c hc
    refine ⟨_, rfl, rfl, ?_⟩
    simp [varD, hl, in_digits]
theorem dg_all (b : Str) : (b.cps.all fun x => decide (x ∈ (Str.ofString "0123456789").cps)) = dg b := by
  simp only [dg, TL.tl, Array.all_toList, Array.mem_toList_iff]
theorem number_told {n : Nat} {z : Str} (h : Tx n z) (hn : n ≤ 16777216) (S : Store) : fn_number_told [.str z] S = pur (nD (nt z)) S := by
  have hb := h.bo
  have f1 := h.fits hn
  have f2 := hb.fits hn
  have e1 := fun S => eqO_str (S := S) (h.cut none (some 1)) (tx_lit "-" (by decide +kernel))
  have e2 := fun S => eqO_str (S := S) h (tx_lit "-0" (by decide +kernel))
  have e3 := fun S => eqO_str (S := S) (hd_tx hb) (tx_lit "0" (by decide +kernel))
  have e4 := fun S => eqO_str (S := S) (tx_lit "0" (by decide +kernel)) (tx_lit "0" (by decide +kernel))
  rw [fn_number_told, retF_fin]
  simp only [ir_number_told, startR, nm_number_told]
  refine st_nx (ρ' := [some (.str z), some (.str (bo z)), none, none]) (S' := S) ?_ ?_
  · simp [f1, e1]
    unfold bo
    split <;> simp_all [setT, tgM]
  have d1 : runT [some (.str z), some (.str (bo z)), none, none] (.or (.cons (.not (.chn .LtE .LtE (.int 1) (.bi .len (.cons (.var 1) .nil)) (.glob "FIGURES" (.int 7)))) (.cons (.not (.bi .all (.cons (.lc false [("sign", 2)] (.nm 2) (.seq (.var 1)) .no (.cmp .In (.var 2) (.str "0123456789"))) .nil))) .nil))) S = pur (!decide (((1 : Int) ≤ (bo z).length ∧ ((bo z).length : Int) ≤ 7) ∧ dg (bo z) = true)) S := by
    by_cases c1 : (1 : Int) ≤ (bo z).length <;> by_cases c2 : ((bo z).length : Int) ≤ 7 <;> by_cases c3 : dg (bo z) = true <;> simp [f2, c1, c2, c3, lc_dig hb hn, wipeR, dg_all]
  have d2 : (1 : Int) ≤ (bo z).length → runT [some (.str z), some (.str (bo z)), none, none] (.or (.cons (.and (.cons (.cmp .Gt (.bi .len (.cons (.var 1) .nil)) (.int 1)) (.cons (.cmp .Eq (.ix (.var 1) (.int 0)) (.str "0")) .nil))) (.cons (.cmp .Eq (.var 0) (.str "-0")) .nil))) S = pur (decide (((1 : Int) < (bo z).length ∧ hd (bo z) = "0") ∨ z = "-0")) S := by
    intro h0
    by_cases c1 : (1 : Int) < (bo z).length <;> by_cases c2 : hd (bo z) = "0" <;> simp [f2, c1, c2, e2, e4, e3, ix_hd (b := bo z) (by omega) f2]
  by_cases c1 : ((1 : Int) ≤ (bo z).length ∧ ((bo z).length : Int) ≤ 7) ∧ dg (bo z) = true
  · refine st_nx (ρ' := [some (.str z), some (.str (bo z)), none, none]) (S' := S) (if_f (S' := S) (by rw [d1]; simp [c1]) rfl) ?_
    obtain ⟨v, hv, hz, _⟩ := bo_int (z := z) (by omega) (by omega) c1.2
    by_cases c2 : ((1 : Int) < (bo z).length ∧ hd (bo z) = "0") ∨ z = "-0"
    · refine st_rt (if_t (S' := S) (by rw [d2 c1.1.1]; simp [c2]) rfl) ?_
      simp [nt, c1, nD, c2]
    · refine st_nx (ρ' := [some (.str z), some (.str (bo z)), none, none]) (S' := S) (if_f (S' := S) (by rw [d2 c1.1.1]; simp [c2]) rfl) ?_
      refine st_nx (ρ' := [some (.str z), some (.str (bo z)), none, some (.int v)]) (S' := S) ?_ ?_
      · simp [intD, hv]
        omega
      · by_cases c3 : -1000000 ≤ v ∧ v ≤ 1000000
        · refine st_rt (d := .int v) (S' := S) (by simp [c3]) ?_
          simp [nt, c1, c2, hv, c3, nD]
        · refine st_rt (d := .non) (S' := S) (by simp; omega) ?_
          simp [nt, c1, c2, hv, c3, nD]
  · refine st_rt (if_t (S' := S) (by rw [d1]; simp [c1]) rfl) ?_
    simp [nt, c1, nD]
end Z


set_option Elab.async false
set_option linter.all false
set_option maxRecDepth 100000
set_option maxHeartbeats 4000000
namespace Z
open PySem PySem.Spec PyProof.Rows L2
theorem empty_iff {b : Str} : b = "" ↔ ¬ (1 : Int) ≤ b.length := by
  constructor
  · rintro rfl
    decide +kernel
  · intro h
    have e : (Str.ofString "") = ⟨#[]⟩ := by decide +kernel
    refine TL.ext_tl ?_
    rw [TL.len_tl] at h
    have : TL.tl b = [] := List.eq_nil_of_length_eq_zero (by omega)
    rw [this, e]
theorem nt_law {z : Str} {v : Int} (c1 : ((1 : Int) ≤ (bo z).length ∧ ((bo z).length : Int) ≤ 7) ∧ dg (bo z) = true) (hv : intText? z = some v) (h : 1 < z.length ↔ 1 < (bo z).length ∨ (cutS z none (some 1) == "-") = true) :
    nt z = if hd (bo z) = "0" ∧ (1 : Int) < z.length then none else if -1000000 ≤ v ∧ v ≤ 1000000 then some v else none := by
  have key : (((1 : Int) < (bo z).length ∧ hd (bo z) = "0") ∨ z = "-0") ↔ (hd (bo z) = "0" ∧ (1 : Int) < z.length) := by
    constructor
    · rintro (⟨a, b⟩ | rfl)
      · exact ⟨b, by omega⟩
      · decide +kernel
    · rintro ⟨a, b⟩
      by_cases e : 1 < (bo z).length
      · exact .inl ⟨by omega, a⟩
      · refine .inr ?_
        have hc : (cutS z none (some 1) == "-") = true := (h.mp (by omega)).resolve_left e
        have hb : bo z = "0" := by
          have e0 : TL.tl ("0" : Str) = [48] := by decide +kernel
          have a' := congrArg TL.tl a
          rw [e0] at a'
          refine TL.ext_tl ?_
          rw [e0]
          have l := TL.len_tl (bo z)
          cases e2 : TL.tl (bo z) with
          | nil => rw [e2] at l; simp at l; omega
          | cons c r =>
            rw [e2] at l
            simp only [List.length_cons] at l
            have : r = [] := List.eq_nil_of_length_eq_zero (by omega)
            subst this
            simp only [hd, e2, TL.tl, List.headD_cons] at a'
            simpa using a'
        unfold bo at hb
        rw [if_pos hc] at hb
        have hc' := eq_of_beq hc
        have e1 := congrArg TL.tl hc'
        have e2 : TL.tl ("-" : Str) = [45] := by decide +kernel
        have e3 : TL.tl ("0" : Str) = [48] := by decide +kernel
        have e4 := congrArg TL.tl hb
        have e5 : TL.tl ("-0" : Str) = [45, 48] := by decide +kernel
        rw [e2] at e1
        rw [e3] at e4
        refine TL.ext_tl ?_
        rw [e5]
        have hl := TL.len_tl z
        simp only [cutS, TL.tl, HT.sIx] at e1 e4 ⊢
        simp only [TL.tl] at hl
        cases e3 : z.cps.toList with
        | nil => rw [e3] at e1; simp at e1
        | cons c r =>
          rw [e3] at e1 e4 hl
          simp only [List.length_cons] at hl
          have hm : min (1 : Int).toNat z.length = 1 := by rw [hl]; simp
          have hm2 : min 1 z.length = 1 := by rw [hl]; omega
          simp [hm, hm2] at e1 e4
          have : r.take (z.length - 1) = r := List.take_of_length_le (by omega)
          rw [this] at e4
          rw [e1, e4]
  simp [nt, c1, hv, key]
theorem law_number {n : Nat} {z : Str} (h : Tx n z) (hn : n ≤ 16777216) (S : Store) : fn__law_number [.str z] S = pur (nD (nt z)) S := by
  have hb := h.bo
  have f1 := h.fits hn
  have f2 := hb.fits hn
  have e1 := fun S => eqO_str (S := S) (h.cut none (some 1)) (tx_lit "-" (by decide +kernel))
  have e2 := fun S => eqO_str (S := S) hb (tx_lit "" (by decide +kernel))
  have e3 := fun S => eqO_str (S := S) (hd_tx hb) (tx_lit "0" (by decide +kernel))
  have e4 := fun S => eqO_str (S := S) (tx_lit "0" (by decide +kernel)) (tx_lit "0" (by decide +kernel))
  rw [fn__law_number, retF_fin]
  simp only [ir__law_number, startR, nm__law_number]
  refine st_nx (ρ' := [some (.str z), some (.str (bo z)), none, none]) (S' := S) ?_ ?_
  · simp [f1, e1]
    unfold bo
    split <;> simp_all [setT, tgM]
  have nd : ((TL.tl (bo z)).any fun c => !decide (c ∈ TL.tl ("0123456789" : Str))) = !dg (bo z) := by
    simp only [dg, List.all_eq_not_any_not, Bool.not_not]
  have d1 : runT [some (.str z), some (.str (bo z)), none, none] (.or (.cons (.cmp .Eq (.var 1) (.str "")) (.cons (.cmp .Gt (.bi .len (.cons (.var 1) .nil)) (.int 7)) (.cons (.bi .any (.cons (.lc false [("sign", 2)] (.nm 2) (.seq (.var 1)) .no (.cmp .NotIn (.var 2) (.str "0123456789"))) .nil)) .nil)))) S = pur (!decide (((1 : Int) ≤ (bo z).length ∧ ((bo z).length : Int) ≤ 7) ∧ dg (bo z) = true)) S := by
    have h1 : ∀ S, runT [some (.str z), some (.str (bo z)), none, none] (.bi .any (.cons (.lc false [("sign", 2)] (.nm 2) (.seq (.var 1)) .no (.cmp .NotIn (.var 2) (.str "0123456789"))) .nil)) S = pur (!dg (bo z)) S := by
      intro S
      rw [← nd]
      simp [lc_ndig hb hn, wipeR]
    simp only [rt_or, ot_two, ot_one, h1]
    by_cases c1 : (1 : Int) ≤ (bo z).length <;> by_cases c2 : ((bo z).length : Int) ≤ 7 <;> by_cases c3 : dg (bo z) = true <;> simp [f2, c1, c2, c3, e2, empty_iff]
    all_goals omega
  by_cases c1 : ((1 : Int) ≤ (bo z).length ∧ ((bo z).length : Int) ≤ 7) ∧ dg (bo z) = true
  · refine st_nx (ρ' := [some (.str z), some (.str (bo z)), none, none]) (S' := S) (if_f (S' := S) (by rw [d1]; simp [c1]) rfl) ?_
    obtain ⟨v, hv, hz, hw⟩ := bo_int (z := z) (by omega) (by omega) c1.2
    rw [nt_law c1 hv hw]
    by_cases c2 : hd (bo z) = "0" ∧ (1 : Int) < z.length
    · refine st_rt (d := .non) (S' := S) (if_t (S' := S) ?_ rfl) ?_
      · simp [ix_hd (b := bo z) (by omega) f2, e3, e4, c2, f1]
      · simp [nD, c2]
    · refine st_nx (ρ' := [some (.str z), some (.str (bo z)), none, none]) (S' := S) (if_f (S' := S) ?_ rfl) ?_
      · by_cases c3 : hd (bo z) = "0"
        · have c4 : ¬ (1 : Int) < z.length := fun q => c2 ⟨c3, q⟩
          simp [ix_hd (b := bo z) (by omega) f2, e3, e4, c3, c4, f1]
        · simp [ix_hd (b := bo z) (by omega) f2, e3, e4, c3, f1]
      refine st_nx (ρ' := [some (.str z), some (.str (bo z)), none, some (.int v)]) (S' := S) ?_ ?_
      · simp [intD, hv]
        omega
      · rw [if_neg c2]
        by_cases c3 : -1000000 ≤ v ∧ v ≤ 1000000
        · refine st_rt (d := .int v) (S' := S) ?_ ?_
          · have : (if v < 0 then -v else v) ≤ 1000000 := by split <;> omega
            simp [this]
          · simp [c3, nD]
        · refine st_rt (d := .non) (S' := S) ?_ ?_
          · have : ¬ (if v < 0 then -v else v) ≤ 1000000 := by split <;> omega
            simp only [rs_ret, re_ife, rt_cmp, re_bi, res_cons, res_nil, bnd_pur, re_int, re_non, bi_abs, var_s, var_0, abs_int, cmp_le, le_int, lft_some, Option.map_some, this, decide_false]
            simp
            exact Int.not_le.mp this
          · simp [c3, nD]
  · refine st_rt (if_t (S' := S) (by rw [d1]; simp [c1]) rfl) ?_
    simp [nt, c1, nD]
end Z


set_option Elab.async false
set_option linter.all false
set_option maxRecDepth 100000
set_option maxHeartbeats 4000000
namespace Z
open PySem PySem.Spec PyProof.Rows L2
theorem law_numbers {n : Nat} {l : List Str} (h : ∀ p ∈ l, Tx n p) (hn : n ≤ 16777216) (hl : l.length ≤ 16777216) (S : Store) : fn__law_numbers [.lst (l.map .str)] S = pur (.lst (l.map fun p => nD (nt p))) S := by
  rw [fn__law_numbers, retF_fin]
  simp only [ir__law_numbers, startR, nm__law_numbers]
  refine st_rt (d := .lst (l.map fun p => nD (nt p))) (S' := S) ?_ (by simp)
  have := lc_of (m := false) (tg := tgM (.nm 1)) (cond := fun ρ' S1 => pur true S1) (elt := fun ρ' S1 => bnd (bnd (varD 1 ρ' S1) fun x S2 => pur [x] S2) fun ds S3 => if ds.length = 1 then fn__law_number ds S3 else none) (ρ := wipeR [some (.lst (l.map .str)), none] [1]) (S := S) (w := ⟨l.map .str, fun _ => true⟩) l .str (fun p => nD (nt p)) rfl rfl (fits_le hl) (fun p hp => ⟨_, rfl, rfl, by simp [wipeR, law_number (h p hp) hn]⟩)
  simp [this]
theorem flat_nD (o : Option Int) : flatD (nD o) = true := by cases o <;> rfl
theorem eqF_nD (o : Option Int) : eqF (nD o) .non = o.isNone := by cases o <;> rfl
theorem in_nD {α : Type} (f : α → Option Int) (l : List α) (S : Store) : inO .non (.lst (l.map fun p => nD (f p))) S = some (l.any fun p => (f p).isNone) := by
  show (if flatD .non && (l.map fun p => nD (f p)).all flatD then some ((l.map fun p => nD (f p)).any fun d => eqF d .non) else none) = _
  have h1 : (l.map fun p => nD (f p)).all flatD = true := by simp [flat_nD]
  have h2 : ((l.map fun p => nD (f p)).any fun d => eqF d .non) = l.any fun p => (f p).isNone := by
    rw [List.any_map]
    congr 1
    funext p
    exact eqF_nD (f p)
  rw [h1, h2]
  rfl
theorem sp_str {a b : Str} {S : Store} (h : a.length + 2 ≤ 16777216) (k : (b.length == 0) = false) : splitM false (.str a) [.str b] S = some (.lst ((Txt.split a b).map .str), S) := by
  show (if !(b.length == 0) && Nat.ble (a.length + 2) 16777216 then _ else _) = _
  rw [k, show Nat.ble (a.length + 2) 16777216 = true from Nat.ble_eq_true_of_le h]
  rfl
def rowBad (l : List Str) : Bool := (l.any fun p => (nt p).isNone) || decide (8 < l.length)
theorem row_told {n : Nat} {z y : Str} (h : Tx n z) (hn : n ≤ 16777214) (hy : TL.tl y ≠ []) (hk : y.cps.all (· < 256) = true) (S : Store) :
    fn_row_told [.str z, .str y] S = pur (if rowBad (Txt.split z y) = true then .non else .tup ((Txt.split z y).map fun p => nD (nt p))) S := by
  obtain ⟨s1, s2, s3⟩ := tx_split h hy hk
  have hy0 : (y.length == 0) = false := by
    rw [TL.len_tl]
    simp
    simpa [TL.tl] using hy
  have hz := h.1
  rw [fn_row_told, retF_fin]
  simp only [ir_row_told, startR, nm_row_told]
  refine st_nx (ρ' := [some (.str z), some (.str y), some (.lst ((Txt.split z y).map .str)), none, none]) (S' := S) ?_ ?_
  · have : z.length + 2 ≤ 16777216 := by omega
    simp [isStrD, Me.ck, Me.sem, sp_str (by omega : z.length + 2 ≤ 16777216) hy0]
  have := lc_of (m := false) (tg := tgM (.nm 4)) (cond := fun ρ' S1 => pur true S1) (elt := fun ρ' S1 => bnd (bnd (varD 4 ρ' S1) fun x S2 => pur [x] S2) fun ds S3 => if ds.length = 1 then fn_number_told ds S3 else none) (ρ := wipeR [some (.str z), some (.str y), some (.lst ((Txt.split z y).map .str)), none, none] [4]) (S := S) (w := ⟨(Txt.split z y).map .str, fun _ => true⟩) (Txt.split z y) .str (fun p => nD (nt p)) rfl rfl (fits_le (by omega)) (fun p hp => ⟨_, rfl, rfl, by simp [wipeR, number_told (s3 p hp) (by omega)]⟩)
  refine st_nx (ρ' := [some (.str z), some (.str y), some (.lst ((Txt.split z y).map .str)), some (.lst ((Txt.split z y).map fun p => nD (nt p))), none]) (S' := S) ?_ ?_
  · simp [this]
  refine st_rt (d := if rowBad (Txt.split z y) = true then .non else .tup ((Txt.split z y).map fun p => nD (nt p))) (S' := S) ?_ (by simp)
  by_cases c1 : ((Txt.split z y).any fun p => (nt p).isNone) = true <;> by_cases c2 : 8 < (Txt.split z y).length <;> simp [in_nD, c1, c2, rowBad]
  all_goals omega
/-- is a row wrong -/
def wrongB (l : List Str) (m : Int) : Bool := decide (8 < l.length) || (!decide ((l.length : Int) = m) || l.any fun p => (nt p).isNone)
theorem law_is_wrong {n : Nat} {l : List Str} (h : ∀ p ∈ l, Tx n p) (hn : n ≤ 16777216) (hl : l.length ≤ 16777216) (m : Int) (S : Store) : fn__law_is_wrong [.lst (l.map .str), .int m] S = pur (.bl (wrongB l m)) S := by
  rw [fn__law_is_wrong, retF_fin]
  simp only [ir__law_is_wrong, startR, nm__law_is_wrong]
  refine st_rt (d := .bl (wrongB l m)) (S' := S) ?_ (by simp)
  have := lc_of (m := false) (tg := tgM (.nm 2)) (cond := fun ρ' S1 => pur true S1) (elt := fun ρ' S1 => bnd (varD 2 ρ' S1) fun x S2 => pur (.bl (isNonD x)) S2) (ρ := wipeR [some (.lst (l.map .str)), some (.int m), none] [2]) (S := S) (w := ⟨l.map fun p => nD (nt p), fun _ => true⟩) l (fun p => nD (nt p)) (fun p => .bl ((nt p).isNone)) rfl rfl (fits_le hl) (fun p hp => ⟨_, rfl, rfl, by simp [wipeR]; cases nt p <;> rfl⟩)
  by_cases c1 : 8 < l.length <;> by_cases c2 : (l.length : Int) = m <;> simp [c1, c2, wrongB, law_numbers h hn hl, this]
  all_goals (intro z; omega)
end Z


set_option Elab.async false
set_option linter.all false
set_option maxRecDepth 100000
set_option maxHeartbeats 4000000
namespace Z
open PySem PySem.Spec PyProof.Rows L2
/-- a loop that only looks for something -/
theorem for_find {α : Type} {stay : Store → Bool} {tg : D → Store → Rho → Option Rho} {body : Rho → Store → MS} {S : Store} (g : α → D) (bad : α → Bool) (rv : α → D) (I : Rho → Prop) (hs : stay S = true) : ∀ (l : List α) (ρ : Rho), I ρ →
    (∀ x ∈ l, ∀ ρ, I ρ → ∃ ρ1 ρ2, tg (g x) S ρ = some ρ1 ∧ body ρ1 S = (if bad x = true then pur (.rt (rv x)) S else pur (.nx ρ2) S) ∧ I ρ2) →
    match l.find? bad with
    | some x => forF stay tg body (l.map g) ρ S = pur (.rt (rv x)) S
    | none => ∃ ρ', forF stay tg body (l.map g) ρ S = pur (.nx ρ') S ∧ I ρ'
  | [], ρ, hI, _ => ⟨ρ, by simp [forF, hs], hI⟩
  | x :: r, ρ, hI, h => by
    obtain ⟨ρ1, ρ2, h1, h2, h3⟩ := h x List.mem_cons_self ρ hI
    simp only [List.map_cons, List.find?_cons, forF, hs, if_true, h1]
    by_cases hb : bad x = true
    · rw [h2, if_pos hb, hb]
      rfl
    · rw [h2, if_neg hb]
      have := for_find (stay := stay) (tg := tg) (body := body) g bad rv I hs r ρ2 h3 fun y hy => h y (List.mem_cons_of_mem _ hy)
      rw [Bool.not_eq_true] at hb
      rw [hb]
      exact this
/-- the first wrong one's place -/
def fb {α : Type} (bad : α → Bool) : List α → Nat → Option Nat
  | [], _ => none
  | x :: r, k => if bad x then some k else fb bad r (k + 1)
theorem fb_range {α : Type} (bad : α → Bool) (f : Nat → Bool) : ∀ (l : List α) (k : Nat), (∀ j x, l[j]? = some x → f (k + j) = bad x) → (List.range' k l.length).find? f = fb bad l k
  | [], k, _ => rfl
  | x :: r, k, h => by
    have h0 : f k = bad x := h 0 x rfl
    rw [List.length_cons, List.range'_succ, List.find?_cons, h0, fb]
    cases bad x with
    | true => rfl
    | false =>
      refine fb_range bad f r (k + 1) fun j y hj => ?_
      rw [← h (j + 1) y (by simpa using hj)]
      congr 1
      omega
theorem fb_lt {α : Type} {bad : α → Bool} : ∀ {l : List α} {k j : Nat}, fb bad l k = some j → j < k + l.length
  | [], _, _, h => by cases h
  | x :: r, k, j, h => by
    unfold fb at h
    split at h
    · cases h
      simp
    · have := fb_lt h
      simp only [List.length_cons]
      omega
def rD (r : Option Nat) (v : D) : D := match r with
  | some k => .tup [.str "raised", .int (k : Nat)]
  | none => .tup [.str "value", v]
def wds (z : Str) : List (List Str) := (Txt.split z "\n").map fun l => Txt.split l " "
/-- the first wrong row -/
def rw0 (L : List (List Str)) (i : Nat) : List Str := L.getD i []
def mWrong (L : List (List Str)) : Option Nat := if 8 < L.length then some 0 else fb (fun l => wrongB l ((rw0 L 0).length)) L 0
def rowsD (L : List (List Str)) : D := .lst (L.map fun l => .lst (l.map fun p => nD (nt p)))
section
variable {S : Store}
@[simp] theorem tup_0 : tupD [] S = pur (.tup []) S := rfl
@[simp] theorem tup_1 (a : D) : tupD [a] S = pur (.tup [a]) S := rfl
@[simp] theorem tup_2 (a b : D) : tupD [a, b] S = pur (.tup [a, b]) S := rfl
@[simp] theorem tup_3 (a b c : D) : tupD [a, b, c] S = pur (.tup [a, b, c]) S := rfl
@[simp] theorem lst_1 (a : D) : lstD [a] S = pur (.lst [a]) S := rfl
@[simp] theorem lst_2 (a b : D) : lstD [a, b] S = pur (.lst [a, b]) S := rfl
@[simp] theorem ptr_0 : ptrD [] S = pur (.ptr S.length) (S ++ [.lst []]) := rfl
@[simp] theorem ck_split (m : Bool) (z : Str) : Me.ck (.split m) (.str z) S = true := rfl
@[simp] theorem ck_join (z : Str) : Me.ck .join (.str z) S = true := rfl
@[simp] theorem sm_split (m : Bool) (x : D) (ds : List D) : Me.sem (.split m) x ds S = splitM m x ds S := rfl
@[simp] theorem sm_join (x : D) (ds : List D) : Me.sem .join x ds S = joinM x ds S := rfl
@[simp] theorem sm_app (x : D) (ds : List D) : Me.sem .append x ds S = appendM x ds S := rfl
end
theorem loop_of {t : Tg} {it : II} {body : ISs} {ρ : Rho} {S S1 : Store} {w : Wk} {X : MS} (h1 : runI ρ it S = pur w S1) (h2 : forF w.stay (tgM t) (fun ρ' S' => runB body ρ' S') w.items ρ S1 = X) : runS ρ (.loop t it body) S = X := by
  rw [rs_loop, h1, bnd_pur, h2]
theorem nl_ok : TL.tl ("\n" : Str) ≠ [] ∧ ("\n" : Str).cps.all (· < 256) = true ∧ (("\n" : Str).length == 0) = false := by decide +kernel
theorem sp_ok : TL.tl (" " : Str) ≠ [] ∧ (" " : Str).cps.all (· < 256) = true ∧ ((" " : Str).length == 0) = false := by decide +kernel
theorem co_ok : TL.tl ("," : Str) ≠ [] ∧ ("," : Str).cps.all (· < 256) = true ∧ (("," : Str).length == 0) = false := by decide +kernel
theorem ix_lst {ds : List D} {S : Store} {k : Nat} {d : D} (h : ds[k]? = some d) : ixD (.lst ds) (.int (k : Nat)) S = pur d S := by
  have hk := (List.getElem?_eq_some_iff.mp h).1
  have e := (List.getElem?_eq_some_iff.mp h).2
  simp [ixD, itsD, atI, ixN, hk, e]
theorem ix_tup {ds : List D} {S : Store} {k : Nat} {d : D} (h : ds[k]? = some d) : ixD (.tup ds) (.int (k : Nat)) S = pur d S := by
  have hk := (List.getElem?_eq_some_iff.mp h).1
  have e := (List.getElem?_eq_some_iff.mp h).2
  simp [ixD, itsD, atI, ixN, hk, e]
theorem rng_nat {n : Nat} {S : Store} (h : n ≤ 16777216) : rng1 [.int (n : Nat)] S = pur ⟨(List.range' 0 n).map fun i => .int (i : Nat), fun _ => true⟩ S := by
  have : smallI (n : Nat) = true := by simp [smallI]; omega
  simp [rng1, this, rangeD, List.range_eq_range']
theorem rng_len {ρ : Rho} {i : Nat} {ds : List D} {S : Store} (h : varD i ρ S = pur (.lst ds) S) (hl : ds.length ≤ 16777216) : runI ρ (.rng1 (.bi .len (.cons (.var i) .nil))) S = pur ⟨(List.range' 0 ds.length).map fun i => .int (i : Nat), fun _ => true⟩ S := by
  have h1 : runE ρ (.bi .len (.cons (.var i) .nil)) S = pur (.int ds.length) S := by simp [h]
  rw [ri_rng1, h1, bnd_pur, bnd_pur]
  exact rng_nat hl
theorem matrix_due {n : Nat} {z : Str} (h : Tx n z) (hn : n ≤ 1000000) (S : Store) : fn__law_matrix_due [.str z] S = pur (rD (mWrong (wds z)) (rowsD (wds z))) S := by
  obtain ⟨s1, s2, s3⟩ := tx_split h nl_ok.1 nl_ok.2.1
  have hz := h.1
  rw [fn__law_matrix_due, retF_fin]
  simp only [ir__law_matrix_due, startR, nm__law_matrix_due]
  have e1 : lcM false (tgM (.nm 2)) (fun ρ' S1 => pur true S1) (fun ρ' S1 => bnd (varD 2 ρ' S1) fun x S2 => if Me.ck (.split false) x S2 = true then lft (splitM false x [.str " "] S2) else none) [some (.str z), none, none, none, none] ⟨(Txt.split z "\n").map .str, fun _ => true⟩ S = pur (.lst ((wds z).map fun l => .lst (l.map .str))) S := by
    rw [lc_of (m := false) (S := S) (Txt.split z "\n") .str (fun l => .lst ((Txt.split l " ").map .str)) rfl rfl (fits_le (by omega)) (fun p hp => ⟨_, rfl, rfl, ?_⟩)]
    · simp [wds]
    · have := (s3 p hp).1
      simp [sp_str (by omega : p.length + 2 ≤ 16777216) sp_ok.2.2]
  refine st_nx (ρ' := [some (.str z), some (.lst ((wds z).map fun l => .lst (l.map .str))), none, none, none]) (S' := S) ?_ ?_
  · simp [sp_str (by omega : z.length + 2 ≤ 16777216) nl_ok.2.2, wipeR, e1]
  have hL : (wds z).length ≤ n + 1 := by simpa [wds] using s2
  have hW : ∀ l ∈ wds z, l.length ≤ n + 1 ∧ ∀ p ∈ l, Tx n p := by
    intro l hl
    simp only [wds, List.mem_map] at hl
    obtain ⟨y, hy, rfl⟩ := hl
    exact (tx_split (s3 y hy) sp_ok.1 sp_ok.2.1).2
  have hne : wds z ≠ [] := by simpa [wds] using s1
  by_cases c1 : 8 < (wds z).length
  · refine st_rt (if_t (S' := S) (by simp; omega) rfl) (d := .tup [.str "raised", .int 0]) (S' := S) ?_
    simp [mWrong, c1, rD]
  refine st_nx (if_f (S' := S) (by simp; omega) rfl) ?_
  have g0 : (wds z)[0]? = some (rw0 (wds z) 0) := by
    cases e : wds z with
    | nil => exact absurd e hne
    | cons a r => rfl
  have key := for_find (stay := fun _ => true) (tg := tgM (.nm 3)) (S := S) (body := fun ρ' S' => runB (.cons (.ife (.call "_law_is_wrong" 2 fn__law_is_wrong (.cons (.ix (.var 1) (.var 3)) (.cons (.bi .len (.cons (.ix (.var 1) (.int 0)) .nil)) .nil))) (.cons (.ret (.tup (.cons (.str "raised") (.cons (.var 3) .nil))))
  .nil) .nil)
  .nil) ρ' S') (fun i : Nat => .int (i : Nat)) (fun i => wrongB (rw0 (wds z) i) (rw0 (wds z) 0).length) (fun i => .tup [.str "raised", .int (i : Nat)]) (fun ρ => ∃ x, ρ = [some (.str z), some (.lst ((wds z).map fun l => .lst (l.map .str))), none, x, none]) rfl (List.range' 0 (wds z).length) [some (.str z), some (.lst ((wds z).map fun l => .lst (l.map .str))), none, none, none] ⟨_, rfl⟩ (by
    rintro i hi ρ ⟨x, rfl⟩
    refine ⟨_, [some (.str z), some (.lst ((wds z).map fun l => .lst (l.map .str))), none, some (.int (i : Nat)), none], rfl, ?_, ⟨_, rfl⟩⟩
    have hi' : i < (wds z).length := by
      rw [List.mem_range'_1] at hi
      omega
    have gi : (wds z)[i]? = some (rw0 (wds z) i) := by simp [rw0, List.getD, hi']
    have x1 := ix_lst (S := S) (ds := (wds z).map fun l => D.lst (l.map .str)) (k := i) (d := .lst ((rw0 (wds z) i).map .str)) (by rw [List.getElem?_map, gi]; rfl)
    have x0 := ix_lst (S := S) (ds := (wds z).map fun l => D.lst (l.map .str)) (k := 0) (d := .lst ((rw0 (wds z) 0).map .str)) (by rw [List.getElem?_map, g0]; rfl)
    have hm := hW _ (List.mem_of_getElem? gi)
    have lw := law_is_wrong hm.2 (by omega) (by omega) (rw0 (wds z) 0).length S
    have x0' : ixD (.lst ((wds z).map fun l => D.lst (l.map .str))) (.int 0) S = pur (.lst ((rw0 (wds z) 0).map .str)) S := x0
    by_cases hb : wrongB (rw0 (wds z) i) (rw0 (wds z) 0).length = true
    · rw [if_pos hb]
      rw [hb] at lw
      simp [x1, x0', lw]
    · rw [if_neg hb]
      rw [Bool.not_eq_true] at hb
      rw [hb] at lw
      simp [x1, x0', lw])
  rw [fb_range (fun l => wrongB l (rw0 (wds z) 0).length) _ (wds z) 0 (fun j x hj => by simp [rw0, List.getD, hj])] at key
  have rn : ∀ x, runI [some (.str z), some (.lst ((wds z).map fun l => .lst (l.map .str))), none, x, none] (.rng1 (.bi .len (.cons (.var 1) .nil))) S = pur ⟨(List.range' 0 (wds z).length).map fun i => .int (i : Nat), fun _ => true⟩ S := by
    intro x
    have := rng_len (ρ := [some (.str z), some (.lst ((wds z).map fun l => .lst (l.map .str))), none, x, none]) (i := 1) (S := S) rfl (by rw [List.length_map]; omega)
    rw [List.length_map] at this
    exact this
  cases hf : fb (fun l => wrongB l (rw0 (wds z) 0).length) (wds z) 0 with
  | some k =>
    rw [hf] at key
    refine st_rt (d := .tup [.str "raised", .int (k : Nat)]) (S' := S) (loop_of (w := ⟨(List.range' 0 (wds z).length).map fun i => .int (i : Nat), fun _ => true⟩) (S1 := S) (rn _) key) ?_
    · simp [mWrong, c1, hf, rD]
  | none =>
    rw [hf] at key
    obtain ⟨ρ', key, x, rfl⟩ := key
    refine st_nx (ρ' := [some (.str z), some (.lst ((wds z).map fun l => .lst (l.map .str))), none, x, none]) (S' := S) (loop_of (w := ⟨(List.range' 0 (wds z).length).map fun i => .int (i : Nat), fun _ => true⟩) (S1 := S) (rn _) key) ?_
    have e2 : lcM false (tgM (.nm 4)) (fun ρ' S1 => pur true S1) (fun ρ' S1 => bnd (bnd (varD 4 ρ' S1) fun x S2 => pur [x] S2) fun ds S2 => if ds.length = 1 then fn__law_numbers ds S2 else none) [some (.str z), some (.lst ((wds z).map fun l => .lst (l.map .str))), none, x, none] ⟨(wds z).map fun l => .lst (l.map .str), fun _ => true⟩ S = pur (rowsD (wds z)) S := by
      rw [lc_of (m := false) (S := S) (wds z) (fun l => .lst (l.map .str)) (fun l => .lst (l.map fun p => nD (nt p))) rfl rfl (fits_le (by omega)) (fun p hp => ⟨_, rfl, rfl, ?_⟩)]
      · rfl
      · simp [law_numbers (hW p hp).2 (by omega) (by have := (hW p hp).1; omega)]
    refine st_rt (d := .tup [.str "value", rowsD (wds z)]) (S' := S) ?_ ?_
    · simp [wipeR, e2]
    · simp [mWrong, c1, hf, rD]
end Z


set_option Elab.async false
set_option linter.all false
set_option maxRecDepth 100000
set_option maxHeartbeats 4000000
namespace Z
open PySem PySem.Spec PyProof.Rows L2
def OkS (S : Store) : Prop := S.all (okO S.length) = true
theorem okDs_map {α : Type} {n : Nat} {f : α → D} : ∀ {l : List α}, (∀ x ∈ l, okD n (f x) = true) → okDs n (l.map f) = true
  | [], _ => by simp [okDs]
  | x :: r, h => by
    simp only [List.map_cons, okDs, h x List.mem_cons_self, Bool.true_and]
    exact okDs_map fun y hy => h y (List.mem_cons_of_mem _ hy)
theorem ok_nD (n : Nat) (o : Option Int) : okD n (nD o) = true := by cases o <;> simp [nD, okD]
def rwD (l : List Str) : D := .tup (l.map fun p => nD (nt p))
theorem ok_rwD (n : Nat) (l : List Str) : okD n (rwD l) = true := by
  simp only [rwD, okD]
  exact okDs_map fun x _ => ok_nD n _
theorem get_end {S : Store} {o : O} : (S ++ [o])[S.length]? = some o := by simp
theorem set_end {S : Store} {o o' : O} : (S ++ [o]).set S.length o' = S ++ [o'] := by simp
/-- the own list is read out at the def's end -/
theorem fin_own {S : Store} {xs : List D} {d d' : D} (hS : OkS S) (h : frzD S.length (S ++ [.lst xs]) 6 d = some d') : fin S.length (pur (.rt d) (S ++ [.lst xs])) = pur d' S := by
  have := fin_cut (n := S.length) (d := d) (d' := d') (S := S ++ [.lst xs]) (by rw [List.take_left]; exact hS) h (by simp)
  rw [List.take_left] at this
  exact this
theorem frz_own {S : Store} {xs : List D} {f : Nat} (h : okDs S.length xs = true) : frzD S.length (S ++ [.lst xs]) (f + 1) (.ptr S.length) = some (.lst xs) := by
  have : Nat.blt S.length S.length = false := Bool.eq_false_iff.mpr fun h => absurd (Nat.le_of_ble_eq_true h) (by omega)
  simp only [frzD, this]
  rw [get_end]
  simp only [frzL, frzs_same f xs h]
  rfl
theorem frz_pair {S : Store} {xs : List D} {d : D} (h : okDs S.length xs = true) (hd : frzD S.length (S ++ [.lst xs]) 6 d = some d) : frzD S.length (S ++ [.lst xs]) 6 (.tup [.ptr S.length, d]) = some (.tup [.lst xs, d]) := by
  have h1 := frz_own (f := 5) h
  have e : frzD S.length (S ++ [.lst xs]) 6 (.tup [.ptr S.length, d]) = (frzDs S.length (S ++ [.lst xs]) 6 [.ptr S.length, d]).map .tup := by rw [frzD]
  rw [e]
  simp only [frzDs, h1, hd]
  rfl
def rowsB : ISs := (.cons (.asg (.nm 5) (.call "row_told" 2 fn_row_told (.cons (.var 4) (.cons (.var 1) .nil))))
  (.cons (.ife (.or (.cons (.cmp .Is (.var 5) .non) (.cons (.and (.cons (.cmp .Gt (.bi .len (.cons (.var 2) .nil)) (.int 0)) (.cons (.cmp .NotEq (.bi .len (.cons (.var 5) .nil)) (.bi .len (.cons (.ix (.var 2) (.int 0)) .nil))) .nil))) .nil))) (.cons (.ret (.tup (.cons (.var 2) (.cons (.var 3) .nil))))
  .nil) .nil)
  (.cons (.expr (.meth .append (.var 2) (.var 5)))
  .nil)))
theorem len_ptr {S : Store} {k : Nat} {ds : List D} (h : S[k]? = some (.lst ds)) : lenD [.ptr k] S = some (.int ds.length, S) := by simp [lenD, itsD, h]
theorem ix_ptr {S : Store} {i k : Nat} {ds : List D} {d : D} (h : S[i]? = some (.lst ds)) (hk : ds[k]? = some d) : ixD (.ptr i) (.int (k : Nat)) S = pur d S := by
  have hl := (List.getElem?_eq_some_iff.mp hk).1
  have e := (List.getElem?_eq_some_iff.mp hk).2
  simp [ixD, itsD, h, atI, ixN, hl, e]
theorem app_ptr {S : Store} {k : Nat} {ds : List D} {y : D} (h : S[k]? = some (.lst ds)) (hl : ds.length < 16777216) : appendM (.ptr k) [y] S = some (.non, S.set k (.lst (ds ++ [y]))) := by
  simp [appendM, h, hl]
theorem ck_app {S : Store} {k : Nat} {ds : List D} (h : S[k]? = some (.lst ds)) : Me.ck .append (.ptr k) S = true := by simp [Me.ck, isPtrD, seqD, h]
theorem rowBad_any {l : List Str} (h : rowBad l = false) : (l.any fun p => (nt p).isNone) = false ∧ l.length ≤ 8 := by
  simp only [rowBad, Bool.or_eq_false_iff, decide_eq_false_iff_not] at h
  exact ⟨h.1, by omega⟩
theorem rows_one {n : Nat} {S : Store} {q x3 x5 : Option D} {m : Int} {k : Nat} {z : Str} {dn : List (List Str)} (h : Tx n z) (hn : n ≤ 1000000) (h1 : ∀ l, dn[0]? = some l → (l.length : Int) = m) (h2 : dn = [] → ((Txt.split z " ").length : Int) = m) (hl : dn.length < 16777216) :
    runB rowsB [q, some (.str " "), some (.ptr S.length), some (.int (k : Nat)), some (.str z), x5] (S ++ [.lst (dn.map rwD)]) =
      if wrongB (Txt.split z " ") m = true then pur (.rt (.tup [.ptr S.length, .int (k : Nat)])) (S ++ [.lst (dn.map rwD)])
      else pur (.nx [q, some (.str " "), some (.ptr S.length), some (.int (k : Nat)), some (.str z), some (rwD (Txt.split z " "))]) (S ++ [.lst ((dn ++ [Txt.split z " "]).map rwD)]) := by
  have rt := row_told h (by omega : n ≤ 16777214) sp_ok.1 sp_ok.2.1 (S ++ [.lst (dn.map rwD)])
  have g0 := get_end (S := S) (o := .lst (dn.map rwD))
  unfold rowsB
  rw [rb_cons]
  have s1 : runS [q, some (.str " "), some (.ptr S.length), some (.int (k : Nat)), some (.str z), x5] (.asg (.nm 5) (.call "row_told" 2 fn_row_told (.cons (.var 4) (.cons (.var 1) .nil)))) (S ++ [.lst (dn.map rwD)]) = pur (.nx [q, some (.str " "), some (.ptr S.length), some (.int (k : Nat)), some (.str z), some (if rowBad (Txt.split z " ") = true then .non else rwD (Txt.split z " "))]) (S ++ [.lst (dn.map rwD)]) := by
    simp [rt, rwD]
  rw [s1, ss_nx]
  by_cases hb : rowBad (Txt.split z " ") = true
  · have hw : wrongB (Txt.split z " ") m = true := by
      unfold rowBad at hb
      unfold wrongB
      revert hb
      cases ((Txt.split z " ").any fun p => (nt p).isNone) <;> simp <;> intro hb <;> simp [hb]
    rw [if_pos hw, if_pos hb, rb_cons, if_t (S' := S ++ [O.lst (dn.map rwD)]) (by simp) rfl]
    simp
  · rw [Bool.not_eq_true] at hb
    obtain ⟨b1, b2⟩ := rowBad_any hb
    rw [hb]
    cases dn with
    | nil =>
      have hw : wrongB (Txt.split z " ") m = false := by
        simp only [wrongB, b1, h2 rfl]
        simp
        omega
      rw [hw, rb_cons, if_f (S' := S ++ [O.lst (([] : List (List Str)).map rwD)]) ?_ rfl]
      · have ca := ck_app g0
        have ap := app_ptr (y := rwD (Txt.split z " ")) g0 (by simp)
        simp at ap ca
        simp [ca, ap]
      · have := len_ptr g0
        simp [rwD] at this ⊢
        simp [this]
    | cons l0 r =>
      have hm := h1 l0 rfl
      have i0 := ix_ptr (k := 0) g0 (d := rwD l0) rfl
      have i0' : ixD (.ptr S.length) (.int 0) (S ++ [.lst ((l0 :: r).map rwD)]) = pur (rwD l0) (S ++ [.lst ((l0 :: r).map rwD)]) := i0
      have ln := len_ptr g0
      by_cases hc : ((Txt.split z " ").length : Int) = m
      · have hw : wrongB (Txt.split z " ") m = false := by
          simp only [wrongB, b1, hc]
          simp
          omega
        rw [hw, rb_cons, if_f (S' := S ++ [O.lst ((l0 :: r).map rwD)]) ?_ rfl]
        · have ca := ck_app g0
          have ap := app_ptr (y := rwD (Txt.split z " ")) g0 (by simpa using hl)
          simp at ap ca
          simp [ca, ap]
        · simp [rwD] at ln i0' ⊢
          simp [ln, i0', rwD, hc, hm]
      · have hw : wrongB (Txt.split z " ") m = true := by
          simp only [wrongB, b1, hc]
          simp
        rw [hw, rb_cons, if_t (S' := S ++ [O.lst ((l0 :: r).map rwD)]) ?_ rfl]
        · simp
        · simp [rwD] at ln i0' ⊢
          simp [ln, i0', rwD, hc, hm]
theorem stay_t {S : Store} : (fun _ : Store => true) S = true := rfl
theorem rows_loop {n : Nat} {S : Store} {q : Option D} {m : Int} (hn : n ≤ 1000000) : ∀ (rest : List Str) (dn : List (List Str)) (k : Nat) (x3 x4 x5 : Option D), (∀ z ∈ rest, Tx n z) → (∀ l, dn[0]? = some l → (l.length : Int) = m) → (dn = [] → ∀ z, rest[0]? = some z → ((Txt.split z " ").length : Int) = m) → dn.length + rest.length < 16777216 →
    match fb (fun z => wrongB (Txt.split z " ") m) rest k with
    | some j => ∃ dn' : List (List Str), forF (fun _ => true) (tgM (.tp [3, 4])) (fun ρ' S' => runB rowsB ρ' S') (enumD k (rest.map .str)) [q, some (.str " "), some (.ptr S.length), x3, x4, x5] (S ++ [.lst (dn.map rwD)]) = pur (.rt (.tup [.ptr S.length, .int (j : Nat)])) (S ++ [.lst (dn'.map rwD)])
    | none => ∃ y3 y4 y5, forF (fun _ => true) (tgM (.tp [3, 4])) (fun ρ' S' => runB rowsB ρ' S') (enumD k (rest.map .str)) [q, some (.str " "), some (.ptr S.length), x3, x4, x5] (S ++ [.lst (dn.map rwD)]) = pur (.nx [q, some (.str " "), some (.ptr S.length), y3, y4, y5]) (S ++ [.lst ((dn ++ rest.map fun z => Txt.split z " ").map rwD)])
  | [], dn, k, x3, x4, x5, _, _, _, _ => ⟨x3, x4, x5, by simp [enumD, forF]⟩
  | z :: r, dn, k, x3, x4, x5, hz, h1, h2, hl => by
    have one := rows_one (q := q) (x3 := x3) (x5 := x5) (k := k) (S := S) (hz z List.mem_cons_self) hn h1 (fun e => h2 e z rfl) (by simp only [List.length_cons] at hl; omega)
    have t : tgM (.tp [3, 4]) (.tup [.int (k : Nat), .str z]) (S ++ [.lst (dn.map rwD)]) [q, some (.str " "), some (.ptr S.length), x3, x4, x5] = some [q, some (.str " "), some (.ptr S.length), some (.int (k : Nat)), some (.str z), x5] := rfl
    simp only [List.map_cons, enumD, forF, if_true, t, one, fb]
    by_cases hw : wrongB (Txt.split z " ") m = true
    · simp only [hw, if_true]
      exact ⟨dn, rfl⟩
    · rw [Bool.not_eq_true] at hw
      have hm : ∀ l, (dn ++ [Txt.split z " "])[0]? = some l → (l.length : Int) = m := by
        intro l hl'
        cases dn with
        | nil =>
          simp at hl'
          subst hl'
          exact h2 rfl z rfl
        | cons a b => exact h1 l (by simpa using hl')
      have ih := rows_loop (S := S) (q := q) (m := m) hn r (dn ++ [Txt.split z " "]) (k + 1) (some (.int (k : Nat))) (some (.str z)) (some (rwD (Txt.split z " "))) (fun y hy => hz y (List.mem_cons_of_mem _ hy)) hm (fun e => by simp at e) (by simp only [List.length_cons, List.length_append, List.length_nil] at hl ⊢; omega)
      have e : dn ++ [Txt.split z " "] ++ (r.map fun z => Txt.split z " ") = dn ++ (Txt.split z " " :: r.map fun z => Txt.split z " ") := by simp
      rw [e] at ih
      simp only [hw, pur, Bool.false_eq_true, if_false] at ih ⊢
      exact ih
theorem rows_told {n : Nat} {S : Store} {ls : List Str} (hn : n ≤ 1000000) (hS : OkS S) (hne : ls ≠ []) (hz : ∀ z ∈ ls, Tx n z) (hl : ls.length ≤ 1000000) :
    ∃ d, fn_rows_told [.lst (ls.map .str), .str " "] S = pur (.tup [.lst d, match fb (fun l => wrongB l (rw0 (ls.map fun z => Txt.split z " ") 0).length) (ls.map fun z => Txt.split z " ") 0 with | some j => .int (j : Nat) | none => .non]) S
      ∧ (fb (fun l => wrongB l (rw0 (ls.map fun z => Txt.split z " ") 0).length) (ls.map fun z => Txt.split z " ") 0 = none → d = (ls.map fun z => Txt.split z " ").map rwD) := by
  have fm : ∀ (bad : List Str → Bool) (l : List Str) (k : Nat), fb bad (l.map fun z => Txt.split z " ") k = fb (fun z => bad (Txt.split z " ")) l k := by
    intro bad l
    induction l with
    | nil => intro k; rfl
    | cons a r ih => intro k; simp only [List.map_cons, fb, ih]
  rw [fm]
  rw [fn_rows_told, retF_fin]
  simp only [ir_rows_told, startR, nm_rows_told]
  have okX : ∀ X : List (List Str), okDs S.length (X.map rwD) = true := fun X => okDs_map fun x _ => ok_rwD _ x
  have lp := rows_loop (S := S) (q := some (.lst (ls.map .str))) (m := (rw0 (ls.map fun z => Txt.split z " ") 0).length) hn ls [] 0 none none none hz (by simp) (by
    intro _ z e
    cases ls with
    | nil => cases e
    | cons a r =>
      simp at e
      subst e
      rfl) (by simp; omega)
  have rI : runI [some (.lst (ls.map .str)), some (.str " "), some (.ptr S.length), none, none, none] (.enum (.var 0)) (S ++ [.lst []]) = pur ⟨enumD 0 (ls.map .str), fun _ => true⟩ (S ++ [.lst []]) := by simp [lstW]
  cases hf : fb (fun z => wrongB (Txt.split z " ") (rw0 (ls.map fun z => Txt.split z " ") 0).length) ls 0 with
  | some j =>
    rw [hf] at lp
    obtain ⟨dn', lp⟩ := lp
    refine ⟨dn'.map rwD, ?_, fun z => by cases z⟩
    refine st_nx (ρ' := [some (.lst (ls.map .str)), some (.str " "), some (.ptr S.length), none, none, none]) (S' := S ++ [O.lst []]) (by simp) ?_
    refine st_rt (d := .tup [.ptr S.length, .int (j : Nat)]) (S' := S ++ [O.lst (dn'.map rwD)]) (loop_of (body := rowsB) rI lp) ?_
    refine fin_own hS ?_
    exact frz_pair (okX dn') (by simp [frzD])

  | none =>
    rw [hf] at lp
    obtain ⟨x3, x4, x5, lp⟩ := lp
    refine ⟨_, ?_, fun _ => rfl⟩
    refine st_nx (ρ' := [some (.lst (ls.map .str)), some (.str " "), some (.ptr S.length), none, none, none]) (S' := S ++ [O.lst []]) (by simp) ?_
    refine st_nx (ρ' := [some (.lst (ls.map .str)), some (.str " "), some (.ptr S.length), x3, x4, x5]) (S' := S ++ [O.lst ((ls.map fun z => Txt.split z " ").map rwD)]) (loop_of (body := rowsB) rI lp) ?_
    refine st_rt (d := .tup [.ptr S.length, .non]) (S' := S ++ [O.lst ((ls.map fun z => Txt.split z " ").map rwD)]) (by simp) ?_
    refine fin_own hS ?_
    exact frz_pair (okX _) (by simp [frzD])

end Z


set_option Elab.async false
set_option linter.all false
set_option maxRecDepth 100000
set_option maxHeartbeats 4000000
namespace Z
open PySem PySem.Spec PyProof.Rows L2
/-- what a def that may raise InvalidText gives -/
def rM (r : Option Nat) (v : D) (S : Store) : M D := match r with
  | some k => some (.err "InvalidText" (.int (k : Nat)), S)
  | none => pur v S
def rowsT (L : List (List Str)) : D := .tup (L.map rwD)
theorem ne_str {S : Store} {z : Str} : runT [some (.str z), none, none, none] (.not (.isi (.var 0) ["str"])) S = pur false S := by
  simp [isiD, tyN, subT]
theorem read_matrix {n : Nat} {z : Str} {S : Store} (h : Tx n z) (hn : n ≤ 100000) (hS : OkS S) : fn_read_matrix [.str z] S = rM (mWrong (wds z)) (rowsT (wds z)) S := by
  obtain ⟨s1, s2, s3⟩ := tx_split h nl_ok.1 nl_ok.2.1
  have hz := h.1
  rw [fn_read_matrix, retF_fin]
  simp only [ir_read_matrix, startR, nm_read_matrix]
  refine st_nx (ρ' := [some (.str z), none, none, none]) (S' := S) (if_f ne_str rfl) ?_
  refine st_nx (ρ' := [some (.str z), some (.lst ((Txt.split z "\n").map .str)), none, none]) (S' := S) ?_ ?_
  · simp [sp_str (by omega : z.length + 2 ≤ 16777216) nl_ok.2.2]
  have hw : (wds z).length = (Txt.split z "\n").length := by simp [wds]
  by_cases c1 : 8 < (Txt.split z "\n").length
  · refine st_err (c := "InvalidText") (d := .int 0) (S' := S) (if_t (S' := S) (by simp; omega) (by simp)) ?_
    simp [mWrong, hw, c1, rM]
  refine st_nx (ρ' := [some (.str z), some (.lst ((Txt.split z "\n").map .str)), none, none]) (S' := S) (if_f (S' := S) (by simp; omega) rfl) ?_
  obtain ⟨d, e1, e2⟩ := rows_told (S := S) (ls := Txt.split z "\n") (n := n) (by omega) hS s1 s3 (by omega)
  have e0 : mWrong (wds z) = fb (fun l => wrongB l (rw0 ((Txt.split z "\n").map fun z => Txt.split z " ") 0).length) ((Txt.split z "\n").map fun z => Txt.split z " ") 0 := by
    unfold mWrong
    rw [if_neg (by rw [hw]; exact c1)]
    rfl
  rw [← e0] at e1 e2
  cases hf : mWrong (wds z) with
  | some j =>
    rw [hf] at e1
    refine st_nx (ρ' := [some (.str z), some (.lst ((Txt.split z "\n").map .str)), some (.lst d), some (.int (j : Nat))]) (S' := S) ?_ ?_
    · simp [e1, setT, tgM, itsD, sets]
    refine st_err (c := "InvalidText") (d := .int (j : Nat)) (S' := S) (if_t (S' := S) (by simp) (by simp)) ?_
    simp [rM]
  | none =>
    rw [hf] at e1
    have e2 := e2 hf
    subst e2
    refine st_nx (ρ' := [some (.str z), some (.lst ((Txt.split z "\n").map .str)), some (.lst (((Txt.split z "\n").map fun z => Txt.split z " ").map rwD)), some .non]) (S' := S) ?_ ?_
    · simp only [rs_asg, re_call, res_cons, res_nil, re_var, re_str, var_s, var_0, bnd_pur, List.length_cons, List.length_nil]
      rw [if_pos trivial, e1]
      rfl
    refine st_nx (ρ' := [some (.str z), some (.lst ((Txt.split z "\n").map .str)), some (.lst (((Txt.split z "\n").map fun z => Txt.split z " ").map rwD)), some .non]) (S' := S) (if_f (S' := S) (by simp) rfl) ?_
    refine st_rt (d := .tup (((Txt.split z "\n").map fun z => Txt.split z " ").map rwD)) (S' := S) (by simp) ?_
    simp only [fin_rtS]
    rfl
end Z


set_option Elab.async false
set_option linter.all false
set_option maxRecDepth 100000
set_option maxHeartbeats 4000000
namespace Z
open PySem PySem.Spec PyProof.Rows L2
/-! ## vectors in texts -/
def vWrong (l : List Str) : Option Nat := if 8 < l.length then some 0 else fb (fun p => (nt p).isNone) l 0
theorem isNon_nD (o : Option Int) : isNonD (nD o) = o.isNone := by cases o <;> rfl
theorem vector_due {n : Nat} {z : Str} (h : Tx n z) (hn : n ≤ 1000000) (S : Store) : fn__law_vector_due [.str z] S = pur (rD (vWrong (Txt.split z ",")) (.lst ((Txt.split z ",").map fun p => nD (nt p)))) S := by
  obtain ⟨s1, s2, s3⟩ := tx_split h co_ok.1 co_ok.2.1
  have hz := h.1
  generalize hL : Txt.split z "," = L at s1 s2 s3 ⊢
  rw [fn__law_vector_due, retF_fin]
  simp only [ir__law_vector_due, startR, nm__law_vector_due]
  refine st_nx (ρ' := [some (.str z), some (.lst (L.map .str)), none, none]) (S' := S) ?_ ?_
  · simp [sp_str (by omega : z.length + 2 ≤ 16777216) co_ok.2.2, hL]
  by_cases c1 : 8 < L.length
  · refine st_rt (if_t (S' := S) (by simp; omega) rfl) (d := .tup [.str "raised", .int 0]) (S' := S) ?_
    simp [vWrong, c1, rD]
  refine st_nx (if_f (S' := S) (by simp; omega) rfl) ?_
  refine st_nx (ρ' := [some (.str z), some (.lst (L.map .str)), some (.lst (L.map fun p => nD (nt p))), none]) (S' := S) ?_ ?_
  · simp [law_numbers s3 (by omega) (by omega)]
  have key := for_find (stay := fun _ => true) (tg := tgM (.nm 3)) (S := S) (body := fun ρ' S' => runB (.cons (.ife (.cmp .Is (.ix (.var 2) (.var 3)) .non) (.cons (.ret (.tup (.cons (.str "raised") (.cons (.var 3) .nil))))
  .nil) .nil)
  .nil) ρ' S') (fun i : Nat => .int (i : Nat)) (fun i => ((L[i]?).bind nt).isNone) (fun i => .tup [.str "raised", .int (i : Nat)]) (fun ρ => ∃ x, ρ = [some (.str z), some (.lst (L.map .str)), some (.lst (L.map fun p => nD (nt p))), x]) rfl (List.range' 0 L.length) [some (.str z), some (.lst (L.map .str)), some (.lst (L.map fun p => nD (nt p))), none] ⟨_, rfl⟩ (by
    rintro i hi ρ ⟨x, rfl⟩
    refine ⟨_, [some (.str z), some (.lst (L.map .str)), some (.lst (L.map fun p => nD (nt p))), some (.int (i : Nat))], rfl, ?_, ⟨_, rfl⟩⟩
    have hi' : i < L.length := by
      rw [List.mem_range'_1] at hi
      omega
    have gi : L[i]? = some L[i] := List.getElem?_eq_getElem hi'
    have x1 := ix_lst (S := S) (ds := L.map fun p => nD (nt p)) (k := i) (d := nD (nt L[i])) (by rw [List.getElem?_map, gi]; rfl)
    rw [gi, Option.bind_some]
    cases hb : (nt L[i]).isNone <;> simp [x1, isNon_nD, hb])
  rw [fb_range (fun p => (nt p).isNone) _ L 0 (fun j x hj => by simp [hj])] at key
  have rn : runI [some (.str z), some (.lst (L.map .str)), some (.lst (L.map fun p => nD (nt p))), none] (.rng1 (.bi .len (.cons (.var 2) .nil))) S = pur ⟨(List.range' 0 L.length).map fun i => .int (i : Nat), fun _ => true⟩ S := by
    have := rng_len (ρ := [some (.str z), some (.lst (L.map .str)), some (.lst (L.map fun p => nD (nt p))), none]) (i := 2) (S := S) rfl (by rw [List.length_map]; omega)
    rw [List.length_map] at this
    exact this
  cases hf : fb (fun p => (nt p).isNone) L 0 with
  | some k =>
    rw [hf] at key
    refine st_rt (d := .tup [.str "raised", .int (k : Nat)]) (S' := S) (loop_of rn key) ?_
    simp [vWrong, c1, hf, rD]
  | none =>
    rw [hf] at key
    obtain ⟨ρ', key, x, rfl⟩ := key
    refine st_nx (ρ' := [some (.str z), some (.lst (L.map .str)), some (.lst (L.map fun p => nD (nt p))), x]) (S' := S) (loop_of rn key) ?_
    refine st_rt (d := .tup [.str "value", .lst (L.map fun p => nD (nt p))]) (S' := S) (by simp) ?_
    simp [vWrong, c1, hf, rD]
end Z


set_option Elab.async false
set_option linter.all false
set_option maxRecDepth 100000
set_option maxHeartbeats 4000000
namespace Z
open PySem PySem.Spec PyProof.Rows L2
theorem fin_ownE {S : Store} {xs : List D} {c : Str} {d d' : D} (hS : OkS S) (h : frzD S.length (S ++ [.lst xs]) 6 d = some d') : fin S.length (rseM c d (S ++ [.lst xs])) = some (.err c d', S) := by
  have h1 : (S ++ [O.lst xs]).take S.length = S := List.take_left
  have e' : ((S ++ [O.lst xs]).length == S.length) = false := by simp
  have h2 : S.all (okO S.length) = true := hS
  simp only [fin, rseM, endD, e', h1, h2, h]
  rfl
def numB : ISs := (.cons (.asg (.nm 5) (.call "number_told" 1 fn_number_told (.cons (.var 4) .nil)))
  (.cons (.ife (.cmp .Is (.var 5) .non) (.cons (.rse "InvalidText" (.var 3))
  .nil) .nil)
  (.cons (.expr (.meth .append (.var 2) (.var 5)))
  .nil)))
def nDt (p : Str) : D := nD (nt p)
theorem num_one {n : Nat} {S : Store} {q1 q2 x5 : Option D} {k : Nat} {z : Str} {dn : List Str} (h : Tx n z) (hn : n ≤ 1000000) (hl : dn.length < 16777216) :
    runB numB [q1, q2, some (.ptr S.length), some (.int (k : Nat)), some (.str z), x5] (S ++ [.lst (dn.map nDt)]) =
      if (nt z).isNone = true then rseM "InvalidText" (.int (k : Nat)) (S ++ [.lst (dn.map nDt)])
      else pur (.nx [q1, q2, some (.ptr S.length), some (.int (k : Nat)), some (.str z), some (nDt z)]) (S ++ [.lst ((dn ++ [z]).map nDt)]) := by
  have rt := number_told h (by omega : n ≤ 16777216) (S ++ [.lst (dn.map nDt)])
  have g0 := get_end (S := S) (o := .lst (dn.map nDt))
  unfold numB
  rw [rb_cons]
  have s1 : runS [q1, q2, some (.ptr S.length), some (.int (k : Nat)), some (.str z), x5] (.asg (.nm 5) (.call "number_told" 1 fn_number_told (.cons (.var 4) .nil))) (S ++ [.lst (dn.map nDt)]) = pur (.nx [q1, q2, some (.ptr S.length), some (.int (k : Nat)), some (.str z), some (nDt z)]) (S ++ [.lst (dn.map nDt)]) := by
    simp [rt, nDt]
  rw [s1, ss_nx]
  have hi : isNonD (nDt z) = (nt z).isNone := isNon_nD _
  by_cases hb : (nt z).isNone = true
  · rw [if_pos hb, rb_cons, if_t (S' := S ++ [.lst (dn.map nDt)]) (by simp [hi, hb]) rfl]
    simp
  · rw [if_neg hb, rb_cons, if_f (S' := S ++ [.lst (dn.map nDt)]) (by simp only [Bool.not_eq_true] at hb; simp [hi, hb]) rfl]
    have ca := ck_app g0
    have ap := app_ptr (y := nDt z) g0 (by simpa using hl)
    simp at ap ca
    simp [ca, ap]
theorem num_loop {n : Nat} {S : Store} {q1 q2 : Option D} (hn : n ≤ 1000000) : ∀ (rest : List Str) (dn : List Str) (k : Nat) (x3 x4 x5 : Option D), (∀ z ∈ rest, Tx n z) → dn.length + rest.length < 16777216 →
    match fb (fun z => (nt z).isNone) rest k with
    | some j => ∃ dn' : List Str, forF (fun _ => true) (tgM (.tp [3, 4])) (fun ρ' S' => runB numB ρ' S') (enumD k (rest.map .str)) [q1, q2, some (.ptr S.length), x3, x4, x5] (S ++ [.lst (dn.map nDt)]) = rseM "InvalidText" (.int (j : Nat)) (S ++ [.lst (dn'.map nDt)])
    | none => ∃ y3 y4 y5, forF (fun _ => true) (tgM (.tp [3, 4])) (fun ρ' S' => runB numB ρ' S') (enumD k (rest.map .str)) [q1, q2, some (.ptr S.length), x3, x4, x5] (S ++ [.lst (dn.map nDt)]) = pur (.nx [q1, q2, some (.ptr S.length), y3, y4, y5]) (S ++ [.lst ((dn ++ rest).map nDt)])
  | [], dn, k, x3, x4, x5, _, _ => ⟨x3, x4, x5, by simp [enumD, forF]⟩
  | z :: r, dn, k, x3, x4, x5, hz, hl => by
    have one := num_one (q1 := q1) (q2 := q2) (x5 := x5) (k := k) (S := S) (dn := dn) (hz z List.mem_cons_self) hn (by simp only [List.length_cons] at hl; omega)
    have t : tgM (.tp [3, 4]) (.tup [.int (k : Nat), .str z]) (S ++ [.lst (dn.map nDt)]) [q1, q2, some (.ptr S.length), x3, x4, x5] = some [q1, q2, some (.ptr S.length), some (.int (k : Nat)), some (.str z), x5] := rfl
    simp only [List.map_cons, enumD, forF, if_true, t, one, fb]
    by_cases hw : (nt z).isNone = true
    · simp only [hw, if_true]
      exact ⟨dn, rfl⟩
    · rw [Bool.not_eq_true] at hw
      have ih := num_loop (S := S) (q1 := q1) (q2 := q2) hn r (dn ++ [z]) (k + 1) (some (.int (k : Nat))) (some (.str z)) (some (nDt z)) (fun y hy => hz y (List.mem_cons_of_mem _ hy)) (by simp only [List.length_cons, List.length_append, List.length_nil] at hl ⊢; omega)
      have e : dn ++ [z] ++ r = dn ++ z :: r := by simp
      rw [e] at ih
      simp only [hw, pur, Bool.false_eq_true, if_false] at ih ⊢
      exact ih
theorem ok_nDt (n : Nat) (p : Str) : okD n (nDt p) = true := ok_nD n _
theorem read_vector {n : Nat} {z : Str} {S : Store} (h : Tx n z) (hn : n ≤ 100000) (hS : OkS S) : fn_read_vector [.str z] S = rM (vWrong (Txt.split z ",")) (.tup ((Txt.split z ",").map nDt)) S := by
  obtain ⟨s1, s2, s3⟩ := tx_split h co_ok.1 co_ok.2.1
  have hz := h.1
  generalize hL : Txt.split z "," = L at s1 s2 s3 ⊢
  rw [fn_read_vector, retF_fin]
  simp only [ir_read_vector, startR, nm_read_vector]
  have ne : runT [some (.str z), none, none, none, none, none] (.not (.isi (.var 0) ["str"])) S = pur false S := by simp [isiD, tyN, subT]
  refine st_nx (ρ' := [some (.str z), none, none, none, none, none]) (S' := S) (if_f ne rfl) ?_
  refine st_nx (ρ' := [some (.str z), some (.lst (L.map .str)), none, none, none, none]) (S' := S) ?_ ?_
  · simp [sp_str (by omega : z.length + 2 ≤ 16777216) co_ok.2.2, hL]
  by_cases c1 : 8 < L.length
  · refine st_err (c := "InvalidText") (d := .int 0) (S' := S) (if_t (S' := S) (by simp; omega) (by simp)) ?_
    simp [vWrong, c1, rM]
  refine st_nx (ρ' := [some (.str z), some (.lst (L.map .str)), none, none, none, none]) (S' := S) (if_f (S' := S) (by simp; omega) rfl) ?_
  refine st_nx (ρ' := [some (.str z), some (.lst (L.map .str)), some (.ptr S.length), none, none, none]) (S' := S ++ [O.lst []]) (by simp) ?_
  have lp := num_loop (S := S) (q1 := some (.str z)) (q2 := some (.lst (L.map .str))) (n := n) (by omega) L [] 0 none none none s3 (by simp; omega)
  have rI : runI [some (.str z), some (.lst (L.map .str)), some (.ptr S.length), none, none, none] (.enum (.var 1)) (S ++ [.lst []]) = pur ⟨enumD 0 (L.map .str), fun _ => true⟩ (S ++ [.lst []]) := by simp [lstW]
  cases hf : fb (fun p => (nt p).isNone) L 0 with
  | some j =>
    rw [hf] at lp
    obtain ⟨dn', lp⟩ := lp
    refine st_err (c := "InvalidText") (d := .int (j : Nat)) (S' := S ++ [O.lst (dn'.map nDt)]) (loop_of (body := numB) rI lp) ?_
    rw [fin_ownE hS (d' := .int (j : Nat)) (by simp [frzD])]
    simp [vWrong, c1, hf, rM]
  | none =>
    rw [hf] at lp
    obtain ⟨x3, x4, x5, lp⟩ := lp
    refine st_nx (ρ' := [some (.str z), some (.lst (L.map .str)), some (.ptr S.length), x3, x4, x5]) (S' := S ++ [O.lst (L.map nDt)]) (loop_of (body := numB) rI lp) ?_
    refine st_rt (d := .tup (L.map nDt)) (S' := S ++ [O.lst (L.map nDt)]) (by simp [tupleD, itsD]) ?_
    rw [fin_own hS (d' := .tup (L.map nDt)) (frz_same 6 _ (by simp only [okD]; exact okDs_map fun x _ => ok_nDt _ x))]
    simp [vWrong, c1, hf, rM]
end Z


set_option Elab.async false
set_option linter.all false
set_option maxRecDepth 100000
set_option maxHeartbeats 4000000
namespace Z
open PySem PySem.Spec PyProof.Rows L2
/-! ## what is a vector, a matrix -/
def pl : D → Bool
  | .non => true
  | .bl _ => true
  | .int _ => true
  | .str _ => true
  | .tup _ => true
  | .lst _ => true
  | _ => false
def isI : D → Bool
  | .int _ => true
  | _ => false
def inR (l m : Int) : D → Bool
  | .int v => decide (l ≤ v) && decide (v ≤ m)
  | _ => false
def isRow : D → Bool
  | .tup _ => true
  | .lst _ => true
  | _ => false
def its' : D → List D
  | .tup ds => ds
  | .lst ds => ds
  | _ => []
theorem is_number {d : D} (h : pl d = true) (S : Store) : fn_is_number [d] S = pur (.bl (isI d)) S := by
  rw [fn_is_number, retF_fin]
  simp only [ir_is_number, startR, nm_is_number]
  cases d <;> simp [pl] at h <;> simp [isiD, tyN, subT, truD, isI]
theorem is_from_to {d : D} (h : pl d = true) (l m : Int) (S : Store) : fn_is_from_to [d, .int l, .int m] S = pur (.bl (inR l m d)) S := by
  have hn := is_number h S
  rw [fn_is_from_to, retF_fin]
  simp only [ir_is_from_to, startR, nm_is_from_to]
  cases d <;> simp [pl] at h <;> simp [hn, isI, inR]
  rename_i v
  by_cases h1 : l ≤ v <;> simp [h1]
theorem is_row {d : D} (h : pl d = true) (S : Store) : fn_is_row [d] S = pur (.bl (isRow d)) S := by
  rw [fn_is_row, retF_fin]
  simp only [ir_is_row, startR, nm_is_row]
  cases d <;> simp [pl] at h <;> simp [isiD, tyN, subT, isRow]
def vecB (d : D) : Bool := isRow d && (decide ((1 : Int) ≤ (its' d).length) && decide (((its' d).length : Int) ≤ 8) && (its' d).all (inR (-1000000) 1000000))
theorem row_cases {d : D} (h : isRow d = true) : (∃ ds, d = .tup ds) ∨ ∃ ds, d = .lst ds := by
  cases d <;> simp [isRow] at h
  · exact .inl ⟨_, rfl⟩
  · exact .inr ⟨_, rfl⟩
theorem row_len {d : D} (h : isRow d = true) (S : Store) : lenD [d] S = some (.int (its' d).length, S) := by
  rcases row_cases h with ⟨ds, rfl⟩ | ⟨ds, rfl⟩ <;> rfl
theorem row_seq {d : D} (h : isRow d = true) (S : Store) : seqW d S = some ⟨its' d, fun _ => true⟩ := by
  rcases row_cases h with ⟨ds, rfl⟩ | ⟨ds, rfl⟩ <;> rfl
theorem row_its {d : D} (h : isRow d = true) (S : Store) : itsD S d = some (its' d) := by
  rcases row_cases h with ⟨ds, rfl⟩ | ⟨ds, rfl⟩ <;> rfl
theorem is_vector {d : D} (h : pl d = true) (hp : (its' d).all pl = true) (S : Store) : fn_is_vector [d] S = pur (.bl (vecB d)) S := by
  rw [fn_is_vector, retF_fin]
  simp only [ir_is_vector, startR, nm_is_vector]
  have hr := is_row h S
  have d1 : runT [some d, none] (.or (.cons (.not (.call "is_row" 1 fn_is_row (.cons (.var 0) .nil))) (.cons (.not (.chn .LtE .LtE (.int 1) (.bi .len (.cons (.var 0) .nil)) (.glob "MOST_SIZE" (.int 8)))) .nil))) S = pur (!(isRow d && (decide ((1 : Int) ≤ (its' d).length) && decide (((its' d).length : Int) ≤ 8)))) S := by
    by_cases c : isRow d = true
    · have := row_len c S
      by_cases c1 : (1 : Int) ≤ (its' d).length <;> by_cases c2 : ((its' d).length : Int) ≤ 8 <;> simp [hr, c, this, c1, c2]
    · simp [hr, c]
  by_cases c : (isRow d && (decide ((1 : Int) ≤ (its' d).length) && decide (((its' d).length : Int) ≤ 8))) = true
  · refine st_nx (ρ' := [some d, none]) (S' := S) (if_f (S' := S) (d1.trans (by rw [c]; rfl)) rfl) ?_
    simp only [Bool.and_eq_true, decide_eq_true_eq] at c
    obtain ⟨c0, c1, c2⟩ := c
    have lc := lc_of (m := false) (tg := tgM (.nm 1)) (cond := fun ρ' S1 => pur true S1) (elt := fun ρ' S1 => bnd (bnd (varD 1 ρ' S1) fun x S2 => pur [x, .int (-1000000), .int 1000000] S2) fun ds S3 => if ds.length = 3 then fn_is_from_to ds S3 else none) (ρ := [some d, none]) (S := S) (w := ⟨its' d, fun _ => true⟩) (its' d) id (fun p => .bl (inR (-1000000) 1000000 p)) (by simp) rfl (fits_le (by omega)) (fun p hp' => ⟨_, rfl, rfl, by simp [is_from_to (List.all_eq_true.mp hp p hp')]⟩)
    refine st_rt (d := .bl ((its' d).all (inR (-1000000) 1000000))) (S' := S) ?_ ?_
    · simp [row_seq c0, wipeR, lc]
    · simp [vecB, c0, c1, c2]
  · refine st_rt (d := .bl false) (S' := S) (if_t (S' := S) (d1.trans (by simp only [Bool.not_eq_true] at c; rw [c]; rfl)) (by simp)) ?_
    simp only [Bool.not_eq_true] at c
    rw [fin_rtS]
    unfold vecB
    rw [← Bool.and_assoc, c]
    rfl
end Z


set_option Elab.async false
set_option linter.all false
set_option maxRecDepth 100000
set_option maxHeartbeats 4000000
namespace Z
open PySem PySem.Spec PyProof.Rows L2
def pl2 (d : D) : Bool := pl d && (its' d).all fun p => pl p && (its' p).all pl
def fsR (d : D) : D := (its' d).headD .non
def sz8 (d : D) : Bool := decide ((1 : Int) ≤ (its' d).length) && decide (((its' d).length : Int) ≤ 8)
def matB (d : D) : Bool := (isRow d && (sz8 d && (its' d).all vecB)) && (its' d).all fun p => decide (((its' p).length : Int) = (its' (fsR d)).length)
theorem vec_row {d : D} (h : vecB d = true) : isRow d = true := by
  simp only [vecB, Bool.and_eq_true] at h
  exact h.1
theorem ix_row {d : D} (h : isRow d = true) (hl : (1 : Int) ≤ (its' d).length) (S : Store) : ixD d (.int 0) S = pur (fsR d) S ∧ fsR d ∈ its' d := by
  rcases row_cases h with ⟨ds, rfl⟩ | ⟨ds, rfl⟩
  · cases ds with
    | nil => simp [its'] at hl
    | cons a r => exact ⟨ix_tup (k := 0) rfl, by simp [fsR, its']⟩
  · cases ds with
    | nil => simp [its'] at hl
    | cons a r => exact ⟨ix_lst (k := 0) rfl, by simp [fsR, its']⟩
theorem is_matrix {d : D} (h : pl2 d = true) (S : Store) : fn_is_matrix [d] S = pur (.bl (matB d)) S := by
  simp only [pl2, Bool.and_eq_true, List.all_eq_true] at h
  obtain ⟨hp, hq⟩ := h
  rw [fn_is_matrix, retF_fin]
  simp only [ir_is_matrix, startR, nm_is_matrix]
  have hr := is_row hp S
  have d1 : runT [some d, none] (.or (.cons (.not (.call "is_row" 1 fn_is_row (.cons (.var 0) .nil))) (.cons (.not (.chn .LtE .LtE (.int 1) (.bi .len (.cons (.var 0) .nil)) (.glob "MOST_SIZE" (.int 8)))) (.cons (.not (.bi .all (.cons (.lc false [("row", 1)] (.nm 1) (.seq (.var 0)) .no (.call "is_vector" 1 fn_is_vector (.cons (.var 1) .nil))) .nil))) .nil)))) S = pur (!(isRow d && (sz8 d && (its' d).all vecB))) S := by
    by_cases c : isRow d = true
    · have := row_len c S
      by_cases c1 : (1 : Int) ≤ (its' d).length <;> by_cases c2 : ((its' d).length : Int) ≤ 8 <;> simp [hr, c, this, c1, c2, sz8]
      have lc := lc_of (m := false) (tg := tgM (.nm 1)) (cond := fun ρ' S1 => pur true S1) (elt := fun ρ' S1 => bnd (bnd (varD 1 ρ' S1) fun x S2 => pur [x] S2) fun ds S3 => if ds.length = 1 then fn_is_vector ds S3 else none) (ρ := [some d, none]) (S := S) (w := ⟨its' d, fun _ => true⟩) (its' d) id (fun p => .bl (vecB p)) (by simp) rfl (fits_le (by omega)) (fun p hp' => ⟨_, rfl, rfl, by
        obtain ⟨a1, a2⟩ := hq p hp'
        simp [is_vector a1 (List.all_eq_true.mpr a2)]⟩)
      simp [row_seq c, wipeR, lc]
    · simp [hr, c]
  by_cases c : (isRow d && (sz8 d && (its' d).all vecB)) = true
  · refine st_nx (ρ' := [some d, none]) (S' := S) (if_f (S' := S) (d1.trans (by rw [c]; rfl)) rfl) ?_
    have c' := c
    simp only [Bool.and_eq_true, decide_eq_true_eq, sz8, List.all_eq_true] at c
    obtain ⟨c0, ⟨c1, c2⟩, c3⟩ := c
    obtain ⟨i1, i2⟩ := ix_row c0 c1 S
    have lf := row_len (vec_row (c3 _ i2)) S
    have lc := lc_of (m := false) (tg := tgM (.nm 1)) (cond := fun ρ' S1 => pur true S1) (elt := fun ρ' S1 => bnd (bnd (bnd (varD 1 ρ' S1) fun x S2 => pur [x] S2) fun ds S3 => lft (lenD ds S3)) fun x S2 => bnd (bnd (bnd (bnd (varD 0 ρ' S2) fun x S3 => ixD x (.int 0) S3) fun x S3 => pur [x] S3) fun ds S3 => lft (lenD ds S3)) fun y S3 => lft ((eqO x y S3).map fun b => (.bl b, S3))) (ρ := [some d, none]) (S := S) (w := ⟨its' d, fun _ => true⟩) (its' d) id (fun p => .bl (decide (((its' p).length : Int) = (its' (fsR d)).length))) (by simp) rfl (fits_le (by omega)) (fun p hp' => ⟨_, rfl, rfl, by
      have lp := row_len (vec_row (c3 p hp')) S
      simp [lp, i1, lf]
      rw [Bool.eq_iff_iff]
      simp⟩)
    refine st_rt (d := .bl ((its' d).all fun p => decide (((its' p).length : Int) = (its' (fsR d)).length))) (S' := S) ?_ ?_
    · simp only [if_false, Bool.false_eq_true] at lc
      have al := allD_lst (S := S) (fun p => decide (((its' p).length : Int) = (its' (fsR d)).length)) (its' d)
      simp only [rs_ret, re_bi, res_cons, res_nil, re_lc, ri_seq, re_var, var_0, bnd_pur, wk_some, row_seq c0, Option.elim_some, rc_no, re_cmp, re_ix, re_int, bi_len, bi_all, cmpD_eq, cmp_eq, wipeR, List.map_cons, List.map_nil, List.set, lc, al, lft_some]
    · rw [fin_rtS]
      unfold matB
      rw [c']
      rfl
  · refine st_rt (d := .bl false) (S' := S) (if_t (S' := S) (d1.trans (by simp only [Bool.not_eq_true] at c; rw [c]; rfl)) (by simp)) ?_
    simp only [Bool.not_eq_true] at c
    rw [fin_rtS]
    unfold matB
    rw [c]
    rfl
end Z


set_option Elab.async false
set_option linter.all false
set_option maxRecDepth 100000
set_option maxHeartbeats 4000000
namespace Z
open PySem PySem.Spec PyProof.Rows L2
/-! ## what is written -/
theorem checked_vector {d : D} (h : pl d = true) (hp : (its' d).all pl = true) (S : Store) : fn_checked_vector [d] S = if vecB d = true then pur (.tup (its' d)) S else some (.err "InvalidVector" d, S) := by
  have hv := is_vector h hp S
  rw [fn_checked_vector, retF_fin]
  simp only [ir_checked_vector, startR, nm_checked_vector]
  by_cases c : vecB d = true
  · rw [if_pos c]
    refine st_nx (ρ' := [some d]) (S' := S) (if_f (S' := S) (by simp [hv, c]) rfl) ?_
    have := row_its (vec_row c) S
    have ht : tupleD [d] S = some (.tup (its' d), S) := by simp [tupleD, this]
    refine st_rt (d := .tup (its' d)) (S' := S) (by simp [ht]) (by simp)
  · rw [if_neg c]
    simp only [Bool.not_eq_true] at c
    refine st_err (c := "InvalidVector") (d := d) (S' := S) (if_t (S' := S) (by simp [hv, c]) (by simp)) (by simp)
theorem checked_matrix {d : D} (h : pl2 d = true) (S : Store) : fn_checked_matrix [d] S = if matB d = true then pur (.tup ((its' d).map fun p => .tup (its' p))) S else some (.err "InvalidMatrix" d, S) := by
  have hv := is_matrix h S
  rw [fn_checked_matrix, retF_fin]
  simp only [ir_checked_matrix, startR, nm_checked_matrix]
  by_cases c : matB d = true
  · rw [if_pos c]
    refine st_nx (ρ' := [some d, none]) (S' := S) (if_f (S' := S) (by simp [hv, c]) rfl) ?_
    simp only [matB, Bool.and_eq_true, sz8, decide_eq_true_eq, List.all_eq_true] at c
    obtain ⟨⟨c0, ⟨c1, c2⟩, c3⟩, c4⟩ := c
    have lc := lc_of (m := false) (tg := tgM (.nm 1)) (cond := fun ρ' S1 => pur true S1) (elt := fun ρ' S1 => bnd (bnd (varD 1 ρ' S1) fun x S2 => pur [x] S2) fun ds S3 => lft (tupleD ds S3)) (ρ := [some d, none]) (S := S) (w := ⟨its' d, fun _ => true⟩) (its' d) id (fun p => .tup (its' p)) (by simp) rfl (fits_le (by omega)) (fun p hp' => ⟨_, rfl, rfl, by
      have ht : tupleD [p] S = some (.tup (its' p), S) := by simp [tupleD, row_its (vec_row (c3 p hp')) S]
      simp [ht]⟩)
    refine st_rt (d := .tup ((its' d).map fun p => .tup (its' p))) (S' := S) (by simp [row_seq c0, wipeR, lc]) (by simp)
  · rw [if_neg c]
    simp only [Bool.not_eq_true] at c
    refine st_err (c := "InvalidMatrix") (d := d) (S' := S) (if_t (S' := S) (by simp [hv, c]) (by simp)) (by simp)
end Z


set_option Elab.async false
set_option linter.all false
set_option maxRecDepth 100000
set_option maxHeartbeats 4000000
namespace Z
open PySem PySem.Spec PyProof.Rows L2
theorem sum_le {n : Nat} : ∀ (l : List Nat), (∀ x ∈ l, x ≤ n) → l.sum ≤ l.length * n
  | [], _ => by simp
  | x :: r, h => by
    have h1 := h x List.mem_cons_self
    have h2 := sum_le r fun y hy => h y (List.mem_cons_of_mem _ hy)
    simp only [List.sum_cons, List.length_cons, Nat.succ_mul]
    omega
theorem join_D {S : Store} {y : Str} {x : D} {l : List Str} (h : itsD S x = some (l.map .str)) (hl : (l.map (·.length)).sum + l.length * y.length ≤ 16777216) : joinM (.str y) [x] S = some (.str (Txt.join y l), S) := by
  have e : asStrs (l.map .str) = some l := by
    have := asStrs_map id l
    simpa using this
  have hb : Nat.ble ((l.map (·.length)).sum + l.length * y.length) 16777216 = true := Nat.ble_eq_true_of_le hl
  simp only [joinM, h, Option.bind_some, e, hb, if_true]
theorem join_tx {S : Store} {y : Str} {x : D} {l : List Str} {n k : Nat} (h : itsD S x = some (l.map .str)) (hp : ∀ p ∈ l, Tx n p) (hy : Tx k y) (hb : l.length * (n + k) ≤ 16777216) : joinM (.str y) [x] S = some (.str (Txt.join y l), S) := by
  refine join_D h (Nat.le_trans ?_ hb)
  have h1 := sum_le (n := n) (l.map (·.length)) (by
    intro x hx
    obtain ⟨p, hp', rfl⟩ := List.mem_map.mp hx
    exact (hp p hp').1)
  have h2 : l.length * y.length ≤ l.length * k := Nat.mul_le_mul_left _ hy.1
  rw [List.length_map] at h1
  rw [Nat.mul_add]
  omega
theorem joined {α : Type} {S : Store} {l : List α} {g : α → D} {f : α → Str} {d : D} {y e : Str} {n k : Nat} (hd : isRow d = true) (hi : its' d = l.map g) (hs : ∀ x ∈ l, strD [g x] S = some (.str (f x), S)) (hp : ∀ x ∈ l, Tx n (f x)) (hy : Tx k y) (hb : l.length * (n + k) ≤ 16777216) (hl : l.length ≤ 16777216) :
    fn_joined [d, .str y, .str e] S = pur (.str (if l = [] then e else Txt.join y (l.map f))) S := by
  rw [fn_joined, retF_fin]
  have e0 : startR nm_joined [d, .str y, .str e] = [some d, some (.str y), some (.str e), none] := rfl
  simp only [ir_joined, e0]
  have hlen := row_len hd S
  rw [hi, List.length_map] at hlen
  refine st_rt (d := .str (if l = [] then e else Txt.join y (l.map f))) (S' := S) ?_ (by simp)
  have hsq := row_seq hd S
  rw [hi] at hsq
  by_cases c : l = []
  · subst c
    simp [hlen]
  · have c1 : 0 < l.length := List.length_pos_iff.mpr c
    have lc := lc_of (m := false) (tg := tgM (.nm 3)) (cond := fun ρ' S1 => pur true S1) (elt := fun ρ' S1 => bnd (bnd (varD 3 ρ' S1) fun x S2 => pur [x] S2) fun ds S3 => lft (strD ds S3)) (ρ := [some d, some (.str y), some (.str e), none]) (S := S) (w := ⟨l.map g, fun _ => true⟩) l g (fun x => .str (f x)) rfl rfl (fits_le hl) (fun x hx => ⟨_, rfl, rfl, by simp [hs x hx]⟩)
    simp only [Bool.false_eq_true, if_false] at lc
    have jn := join_tx (S := S) (y := y) (x := .lst (l.map fun x => .str (f x))) (l := l.map f) (n := n) (k := k) (by simp [itsD]) (by
      intro p hp'
      obtain ⟨x, hx, rfl⟩ := List.mem_map.mp hp'
      exact hp x hx) hy (by rw [List.length_map]; exact hb)
    have h1 : runE [some d, some (.str y), some (.str e), none] (.lc false [("part", 3)] (.nm 3) (.seq (.var 0)) .no (.bi .str (.cons (.var 3) .nil))) S = pur (.lst (l.map fun x => .str (f x))) S := by
      simp only [re_lc, ri_seq, re_var, var_0, bnd_pur, wk_some, hsq, Option.elim_some, rc_no, re_bi, res_cons, res_nil, bi_str, wipeR, List.map_cons, List.map_nil, List.set, lc]
    have h2 : runE [some d, some (.str y), some (.str e), none] (.meth .join (.var 1) (.lc false [("part", 3)] (.nm 3) (.seq (.var 0)) .no (.bi .str (.cons (.var 3) .nil)))) S = pur (.str (Txt.join y (l.map f))) S := by
      rw [re_meth]
      simp only [re_var, var_s, var_0, bnd_pur, ck_join, if_true, h1, sm_join, jn, lft_some]
    have h3 : runT [some d, some (.str y), some (.str e), none] (.cmp .Gt (.bi .len (.cons (.var 0) .nil)) (.int 0)) S = pur true S := by
      have : (0 : Int) < l.length := by omega
      simp [hlen]
      exact c1
    rw [rs_ret, re_ife, h3, bnd_pur, if_pos rfl, h2, bnd_pur, if_neg c]
end Z


set_option Elab.async false
set_option linter.all false
set_option maxRecDepth 100000
set_option maxHeartbeats 4000000
namespace Z
open PySem PySem.Spec PyProof.Rows L2
theorem log_small {v : Int} (h : -1000000 ≤ v ∧ v ≤ 1000000) : v.natAbs.log2 < 1920 := by
  by_cases e : v.natAbs = 0
  · rw [e]; decide
  · exact Nat.lt_of_lt_of_le ((Nat.log2_lt e).mpr (by omega : v.natAbs < 2 ^ 20)) (by decide)
theorem str_int {v : Int} (h : v.natAbs.log2 < 1920) (S : Store) : strD [.int v] S = some (.str (its v), S) := by
  have : Nat.blt v.natAbs.log2 1920 = true := Nat.ble_eq_true_of_le h
  simp only [strD, this, if_true]
theorem tx_num {v : Int} (h : -1000000 ≤ v ∧ v ≤ 1000000) : Tx 8 (its v) := tx_its (by decide) (by omega)
/-- a good vector is one of ints -/
theorem vec_ints {d : D} (h : vecB d = true) : ∃ l : List Int, its' d = l.map .int ∧ l ≠ [] ∧ l.length ≤ 8 ∧ ∀ v ∈ l, -1000000 ≤ v ∧ v ≤ 1000000 := by
  simp only [vecB, Bool.and_eq_true, decide_eq_true_eq, List.all_eq_true] at h
  obtain ⟨h0, ⟨h1, h2⟩, h3⟩ := h
  have key : ∀ ds : List D, (∀ x ∈ ds, inR (-1000000) 1000000 x = true) → ∃ l : List Int, ds = l.map .int ∧ ∀ v ∈ l, -1000000 ≤ v ∧ v ≤ 1000000 := by
    intro ds
    induction ds with
    | nil => intro _; exact ⟨[], rfl, by simp⟩
    | cons a r ih =>
      intro h
      obtain ⟨l, e, k⟩ := ih fun x hx => h x (List.mem_cons_of_mem _ hx)
      have ha := h a List.mem_cons_self
      cases a <;> simp [inR] at ha
      rename_i v
      refine ⟨v :: l, by rw [e]; rfl, fun w hw => ?_⟩
      rcases List.mem_cons.mp hw with rfl | hw
      · exact ha
      · exact k w hw
  obtain ⟨l, e, k⟩ := key _ h3
  rw [e, List.length_map] at h1 h2
  refine ⟨l, e, ?_, by omega, k⟩
  rintro rfl
  simp at h1
theorem joined_ints {d : D} {l : List Int} {y e : Str} (hd : isRow d = true) (hi : its' d = l.map .int) (hne : l ≠ []) (hl : l.length ≤ 1000) (hv : ∀ v ∈ l, -1000000 ≤ v ∧ v ≤ 1000000) (hy : Tx 100 y) (S : Store) : fn_joined [d, .str y, .str e] S = pur (.str (Txt.join y (l.map its))) S := by
  rw [joined (n := 8) (k := 100) hd hi (fun v hv' => str_int (log_small (hv v hv')) S) (fun v hv' => tx_num (hv v hv')) hy (by omega) (by omega), if_neg hne]
theorem map_int_inj : ∀ {a b : List Int}, a.map D.int = b.map D.int → a = b
  | [], [], _ => rfl
  | x :: r, y :: s, h => by
    simp only [List.map_cons, List.cons.injEq, D.int.injEq] at h
    rw [h.1, map_int_inj h.2]
  | [], _ :: _, h => by cases h
  | _ :: _, [], h => by cases h
theorem write_vector {d : D} (h : pl d = true) (hp : (its' d).all pl = true) (S : Store) :
    (vecB d = false → fn_write_vector [d] S = some (.err "InvalidVector" d, S)) ∧ ∀ l : List Int, vecB d = true → its' d = l.map .int → fn_write_vector [d] S = pur (.str (Txt.join "," (l.map its))) S := by
  have cv := checked_vector h hp S
  have e0 : startR nm_write_vector [d] = [some d] := rfl
  refine ⟨fun c => ?_, fun l c hl => ?_⟩
  · rw [fn_write_vector, retF_fin]
    simp only [ir_write_vector, e0]
    rw [if_neg (by rw [c]; decide)] at cv
    refine st_err (c := "InvalidVector") (d := d) (S' := S) ?_ (by simp)
    simp [cv]
    rfl
  · rw [fn_write_vector, retF_fin]
    simp only [ir_write_vector, e0]
    rw [if_pos c] at cv
    obtain ⟨l', e, k1, k2, k3⟩ := vec_ints c
    have : l' = l := by
      rw [e] at hl
      exact map_int_inj hl
    subst this
    have jn := joined_ints (d := .tup (its' d)) (l := l') (y := ",") (e := "") rfl e k1 (by omega) k3 (tx_lit "," (by decide +kernel)) S
    have vt : fn_vector_text [.tup (its' d)] S = pur (.str (Txt.join "," (l'.map its))) S := by
      rw [fn_vector_text, retF_fin]
      have e1 : startR nm_vector_text [.tup (its' d)] = [some (.tup (its' d))] := rfl
      simp only [ir_vector_text, e1]
      exact st_rt (d := .str (Txt.join "," (l'.map its))) (S' := S) (by simp [jn]) (by simp)
    exact st_rt (d := .str (Txt.join "," (l'.map its))) (S' := S) (by simp [cv, vt]) (by simp)
end Z


set_option Elab.async false
set_option linter.all false
set_option maxRecDepth 100000
set_option maxHeartbeats 4000000
namespace Z
open PySem PySem.Spec PyProof.Rows L2
theorem tx_row {l : List Int} (hl : l.length ≤ 8) (hv : ∀ v ∈ l, -1000000 ≤ v ∧ v ≤ 1000000) {y : Str} (hy : Tx 1 y) : Tx 100 (Txt.join y (l.map its)) := by
  have := tx_join' (n := 8) hy (l := l.map its) (by
    intro p hp
    obtain ⟨v, hv', rfl⟩ := List.mem_map.mp hp
    exact tx_num (hv v hv'))
  refine this.mono ?_
  rw [List.length_map]
  omega
def txtM (L : List (List Int)) : Str := Txt.join "\n" (L.map fun l => Txt.join " " (l.map its))
theorem write_matrix {d : D} (h : pl2 d = true) (S : Store) :
    (matB d = false → fn_write_matrix [d] S = some (.err "InvalidMatrix" d, S)) ∧ ∀ L : List (List Int), matB d = true → (its' d).map its' = L.map (fun l => l.map .int) → (∀ l ∈ L, l ≠ [] ∧ l.length ≤ 8 ∧ ∀ v ∈ l, -1000000 ≤ v ∧ v ≤ 1000000) → L.length ≤ 8 → fn_write_matrix [d] S = pur (.str (txtM L)) S := by
  have cm := checked_matrix h S
  have e0 : startR nm_write_matrix [d] = [some d, none] := rfl
  refine ⟨fun c => ?_, fun L c hL hg hl8 => ?_⟩
  · rw [fn_write_matrix, retF_fin]
    simp only [ir_write_matrix, e0]
    rw [if_neg (by rw [c]; decide)] at cm
    refine st_err (c := "InvalidMatrix") (d := d) (S' := S) ?_ (by simp)
    simp [cm]
    rfl
  · rw [fn_write_matrix, retF_fin]
    simp only [ir_write_matrix, e0]
    rw [if_pos c] at cm
    have e1 : ((its' d).map fun p => D.tup (its' p)) = L.map fun l => .tup (l.map .int) := by
      have : ((its' d).map fun p => D.tup (its' p)) = ((its' d).map its').map .tup := by rw [List.map_map]; rfl
      rw [this, hL, List.map_map]
      rfl
    rw [e1] at cm
    have lc := lc_of (m := false) (tg := tgM (.nm 1)) (cond := fun ρ' S1 => pur true S1) (elt := fun ρ' S1 => bnd (bnd (varD 1 ρ' S1) fun x S2 => pur [x, .str " ", .str ""] S2) fun ds S3 => if ds.length = 3 then fn_joined ds S3 else none) (ρ := [some d, none]) (S := S) (w := ⟨L.map fun l => .tup (l.map .int), fun _ => true⟩) L (fun l => .tup (l.map .int)) (fun l => .str (Txt.join " " (l.map its))) rfl rfl (fits_le (by omega)) (fun l hl => ⟨_, rfl, rfl, by
      obtain ⟨g1, g2, g3⟩ := hg l hl
      simp [joined_ints (d := .tup (l.map .int)) (l := l) (y := " ") (e := "") rfl rfl g1 (by omega) g3 (tx_lit " " (by decide +kernel)) S]⟩)
    have jn := join_tx (S := S) (y := "\n") (x := .lst (L.map fun l => .str (Txt.join " " (l.map its)))) (l := L.map fun l => Txt.join " " (l.map its)) (n := 100) (k := 100) (by simp [itsD]) (by
      intro p hp'
      obtain ⟨x, hx, rfl⟩ := List.mem_map.mp hp'
      exact tx_row (hg x hx).2.1 (hg x hx).2.2 (tx_of " " 1 (by decide +kernel))) (tx_lit "\n" (by decide +kernel)) (by rw [List.length_map]; omega)
    refine st_rt (d := .str (txtM L)) (S' := S) ?_ (by simp)
    simp [cm, wipeR, lc, jn, txtM]
end Z


set_option Elab.async false
set_option linter.all false
set_option maxRecDepth 100000
set_option maxHeartbeats 4000000
namespace Z
open PySem PySem.Spec PyProof.Rows L2
/-! ## what is told and what is due -/
/-- t is what d asks for, k deep -/
inductive Sm (S : Store) : Nat → D → D → Prop
  | non (k) : Sm S (k + 1) .non .non
  | bl (k b) : Sm S (k + 1) (.bl b) (.bl b)
  | int (k i) : Sm S (k + 1) (.int i) (.int i)
  | str (k z) (h : Tx 16777216 z) : Sm S (k + 1) (.str z) (.str z)
  | sq (k) (ts ds : List D) (d : D) (hd : isRow d = true) (hi : its' d = ds) (hl : ts.length = ds.length) (hl8 : ds.length ≤ 1000) (h : ∀ (i : Nat) (t e : D), ts[i]? = some t → ds[i]? = some e → Sm S k t e) : Sm S (k + 1) (.tup ts) d
theorem same {S : Store} {k : Nat} {t d : D} (h : Sm S k t d) : fn__law_same k [t, d] S = pur (.bl true) S := by
  induction h with
  | non k =>
    rw [fn__law_same, retF_fin]
    simp [ir__law_same, startR, nm__law_same]
  | bl k b =>
    rw [fn__law_same, retF_fin]
    cases b <;> simp [ir__law_same, startR, nm__law_same, isNonD, isiD, tyN, subT, eqO, pyD, SeqAt.shaped, PyData.canLay0, PyData.depth, PyData.eqv]
  | int k i =>
    rw [fn__law_same, retF_fin]
    simp [ir__law_same, startR, nm__law_same, isNonD, isiD, tyN, subT, truD]
  | str k z h =>
    rw [fn__law_same, retF_fin]
    simp [ir__law_same, startR, nm__law_same, isNonD, isiD, tyN, subT, eqO_str h h]
  | sq k ts ds d hd hi hl hl8 h ih =>
    rw [fn__law_same, retF_fin]
    have e0 : startR nm__law_same [.tup ts, d] = [some (.tup ts), some d, none] := rfl
    simp only [ir__law_same, e0]
    have nn : isNonD d = false := by rcases row_cases hd with ⟨es, rfl⟩ | ⟨es, rfl⟩ <;> rfl
    have it : isiD ["tuple", "list"] d S = some (.bl true, S) := by rcases row_cases hd with ⟨es, rfl⟩ | ⟨es, rfl⟩ <;> simp [isiD, tyN, subT]
    have ln := row_len hd S
    rw [hi] at ln
    refine st_nx (ρ' := [some (.tup ts), some d, none]) (S' := S) (if_f (S' := S) (by simp [nn]) rfl) ?_
    have rn : ∀ x, runI [some (.tup ts), some d, x] (.rng1 (.bi .len (.cons (.var 1) .nil))) S = pur ⟨(List.range' 0 ds.length).map fun i => .int (i : Nat), fun _ => true⟩ S := by
      intro x
      have h1 : runE [some (.tup ts), some d, x] (.bi .len (.cons (.var 1) .nil)) S = pur (.int ds.length) S := by simp [ln]
      rw [ri_rng1, h1, bnd_pur, bnd_pur]
      exact rng_nat (by omega)
    have key := for_find (stay := fun _ => true) (tg := tgM (.nm 2)) (S := S) (body := fun ρ' S' => runB (.cons (.ife (.not (.call "_law_same" 2 (fn__law_same k) (.cons (.ix (.var 0) (.var 2)) (.cons (.ix (.var 1) (.var 2)) .nil)))) (.cons (.ret (.bl false))
  .nil) .nil)
  .nil) ρ' S') (fun i : Nat => .int (i : Nat)) (fun _ => false) (fun _ => .non) (fun ρ => ∃ x, ρ = [some (.tup ts), some d, x]) rfl (List.range' 0 ds.length) [some (.tup ts), some d, none] ⟨_, rfl⟩ (by
      rintro i hi' ρ ⟨x, rfl⟩
      refine ⟨_, [some (.tup ts), some d, some (.int (i : Nat))], rfl, ?_, ⟨_, rfl⟩⟩
      have hlt : i < ds.length := by
        rw [List.mem_range'_1] at hi'
        omega
      have g1 : ts[i]? = some (ts[i]'(by omega)) := List.getElem?_eq_getElem (by omega)
      have g2 : ds[i]? = some ds[i] := List.getElem?_eq_getElem hlt
      have x1 := ix_tup (S := S) g1
      have x2 : ixD d (.int (i : Nat)) S = pur ds[i] S := by
        rcases row_cases hd with ⟨es, rfl⟩ | ⟨es, rfl⟩
        · simp only [its'] at hi
          subst hi
          exact ix_tup g2
        · simp only [its'] at hi
          subst hi
          exact ix_lst g2
      have sm := ih i _ _ g1 g2
      simp [x1, x2, sm])
    have fnone : (List.range' 0 ds.length).find? (fun _ => false) = none := by simp
    rw [fnone] at key
    obtain ⟨ρ', key, x, rfl⟩ := key
    refine st_rt (d := .bl true) (S' := S) (if_t (S' := S) (by simp [it]) ?_) (by simp)
    have c1 : runT [some (.tup ts), some d, none] (.or (.cons (.not (.isi (.var 0) ["tuple"])) (.cons (.cmp .NotEq (.bi .len (.cons (.var 0) .nil)) (.bi .len (.cons (.var 1) .nil))) .nil))) S = pur false S := by
      simp [isiD, tyN, subT, ln, hl]
    rw [rb_cons, if_f c1 rfl, rb_nil, ss_nx, rb_cons, loop_of (rn _) key, ss_nx]
    simp
end Z


set_option Elab.async false
set_option linter.all false
set_option maxRecDepth 100000
set_option maxHeartbeats 4000000
namespace Z
open PySem PySem.Spec PyProof.Rows L2
theorem ix2 {a b : D} {S : Store} : ixD (.tup [a, b]) (.int 0) S = pur a S ∧ ixD (.tup [a, b]) (.int 1) S = pur b S := ⟨ix_tup (k := 0) rfl, ix_tup (k := 1) rfl⟩
theorem gives {S : Store} {t d : D} (h : Sm S 9 t d) : fn__law_gives [.tup [.str "value", t], d] S = pur (.bl true) S := by
  rw [fn__law_gives, retF_fin]
  have sm := same h
  have e := fun S => eqO_str (S := S) (tx_lit "value" (by decide +kernel)) (tx_lit "value" (by decide +kernel))
  refine st_rt (d := .bl true) (S' := S) ?_ (by simp)
  simp [ir__law_gives, startR, nm__law_gives, ix2.1, ix2.2, e, sm]
def isL : D → Bool
  | .lst _ => true
  | _ => false
theorem ix1 {a : D} {S : Store} : ixD (.lst [a]) (.int 0) S = pur a S := ix_lst (k := 0) rfl
theorem raises {S : Store} {t d : D} {c : Str} (hc : Tx 100 c) (hp : pl d = true) (hl : isL d = false) (h : Sm S 9 t d) : fn__law_raises [.tup [.str "raised", .lst [.tup [.str c, t]]], .str c, d] S = pur (.bl true) S := by
  rw [fn__law_raises, retF_fin]
  have sm := same h
  have e := fun S => eqO_str (S := S) (tx_lit "raised" (by decide +kernel)) (tx_lit "raised" (by decide +kernel))
  have e2 := fun S => eqO_str (S := S) hc hc
  have e0 : startR nm__law_raises [.tup [.str "raised", .lst [.tup [.str c, t]]], .str c, d] = [some (.tup [.str "raised", .lst [.tup [.str c, t]]]), some (.str c), some d] := rfl
  have it : isiD ["list"] d S = some (.bl false, S) := by cases d <;> simp [isL, pl] at hl hp <;> simp [isiD, tyN, subT]
  simp only [ir__law_raises, e0]
  refine st_nx (ρ' := [some (.tup [.str "raised", .lst [.tup [.str c, t]]]), some (.str c), some d]) (S' := S) (if_f (S' := S) (by simp [ix2.1, ix2.2, ix1, e, e2]) rfl) ?_
  refine st_nx (ρ' := [some (.tup [.str "raised", .lst [.tup [.str c, t]]]), some (.str c), some d]) (S' := S) (if_f (S' := S) (by simp [it]) rfl) ?_
  exact st_rt (d := .bl true) (S' := S) (by simp [ix2.1, ix2.2, ix1, sm]) (by simp)
end Z


set_option Elab.async false
set_option linter.all false
set_option maxRecDepth 100000
set_option maxHeartbeats 4000000
namespace Z
open PySem PySem.Spec PyProof.Rows L2
/-! ## fits; reading -/
theorem sm_nD {S : Store} {k : Nat} (o : Option Int) : Sm S (k + 1) (nD o) (nD o) := by
  cases o
  · exact .non k
  · exact .int k _
theorem sm_map {S : Store} {k : Nat} {α : Type} {f g : α → D} {l : List α} {d : D} (hd : isRow d = true) (hi : its' d = l.map g) (hl : l.length ≤ 1000) (h : ∀ x ∈ l, Sm S k (f x) (g x)) : Sm S (k + 1) (.tup (l.map f)) d := by
  refine .sq k (l.map f) (l.map g) d hd hi (by simp) (by simpa using hl) fun i t e h1 h2 => ?_
  rw [List.getElem?_map, Option.map_eq_some_iff] at h1 h2
  obtain ⟨x, hx, rfl⟩ := h1
  obtain ⟨y, hy, rfl⟩ := h2
  rw [hx] at hy
  cases hy
  exact h x (List.mem_of_getElem? hx)
theorem fits_v {S : Store} {t d : D} (h : Sm S 9 t d) : fn__law_fits [.tup [.str "value", t], .tup [.str "value", d]] S = pur (.bl true) S := by
  rw [fn__law_fits, retF_fin]
  have e0 : startR nm__law_fits [.tup [.str "value", t], .tup [.str "value", d]] = [some (.tup [.str "value", t]), some (.tup [.str "value", d])] := rfl
  have e := fun S => eqO_str (S := S) (tx_lit "value" (by decide +kernel)) (tx_lit "value" (by decide +kernel))
  simp only [ir__law_fits, e0]
  refine st_rt (d := .bl true) (S' := S) (if_t (S' := S) (by simp [ix2.1, ix2.2, e]) ?_) (by simp)
  simp [ix2.1, ix2.2, gives h]
theorem fits_r {S : Store} {k : Nat} : fn__law_fits [.tup [.str "raised", .lst [.tup [.str "InvalidText", .int (k : Nat)]]], .tup [.str "raised", .int (k : Nat)]] S = pur (.bl true) S := by
  rw [fn__law_fits, retF_fin]
  have e0 : startR nm__law_fits [.tup [.str "raised", .lst [.tup [.str "InvalidText", .int (k : Nat)]]], .tup [.str "raised", .int (k : Nat)]] = [some (.tup [.str "raised", .lst [.tup [.str "InvalidText", .int (k : Nat)]]]), some (.tup [.str "raised", .int (k : Nat)])] := rfl
  have e := fun S => eqO_str (S := S) (tx_lit "raised" (by decide +kernel)) (tx_lit "value" (by decide +kernel))
  have ne : ¬ (("raised" : Str) = "value") := by decide +kernel
  have rr := raises (S := S) (c := "InvalidText") (t := .int (k : Nat)) (d := .int (k : Nat)) (tx_lit "InvalidText" (by decide +kernel)) rfl rfl (.int 8 _)
  simp only [ir__law_fits, e0]
  refine st_nx (ρ' := [some (.tup [.str "raised", .lst [.tup [.str "InvalidText", .int (k : Nat)]]]), some (.tup [.str "raised", .int (k : Nat)])]) (S' := S) (if_f (S' := S) (by simp [ix2.1, ix2.2, e, ne]) rfl) ?_
  exact st_rt (d := .bl true) (S' := S) (by simp [ix2.1, ix2.2, rr]) (by simp)
theorem fits_read {S : Store} {r : Option Nat} {v d : D} {ea eb : M D} (h1 : ea = rM r v S) (h2 : eb = pur (rD r d) S) (h : r = none → Sm S 9 v d) : ∃ t u, toldM ea = pur t S ∧ eb = pur u S ∧ fn__law_fits [t, u] S = pur (.bl true) S := by
  subst h1 h2
  cases r with
  | none => exact ⟨_, _, rfl, rfl, fits_v (h rfl)⟩
  | some k => exact ⟨.tup [.str "raised", .lst [.tup [.str "InvalidText", .int (k : Nat)]]], _, by
      have : excL.contains (Str.ofString "InvalidText") = true := by decide +kernel
      simp only [rM, toldM, this]
      rfl, rfl, fits_r⟩
theorem fb_none {α : Type} {bad : α → Bool} : ∀ {l : List α} {k : Nat}, fb bad l k = none → ∀ x ∈ l, bad x = false
  | [], _, _, x, hx => by cases hx
  | y :: r, k, h, x, hx => by
    unfold fb at h
    split at h
    · cases h
    · rename_i hb
      rcases List.mem_cons.mp hx with rfl | hx
      · simpa using hb
      · exact fb_none h x hx
theorem sm_rows {S : Store} {L : List (List Str)} (h : mWrong L = none) : Sm S 9 (rowsT L) (rowsD L) := by
  unfold mWrong at h
  split at h
  · cases h
  · rename_i hl
    have hb := fb_none h
    refine sm_map rfl rfl (by omega) fun l hl' => ?_
    have hw := hb l hl'
    simp only [wrongB, Bool.or_eq_false_iff, decide_eq_false_iff_not] at hw
    exact sm_map rfl rfl (by omega) fun p _ => sm_nD _
theorem sm_vec {S : Store} {L : List Str} (h : vWrong L = none) : Sm S 9 (.tup (L.map nDt)) (.lst (L.map fun p => nD (nt p))) := by
  unfold vWrong at h
  split at h
  · cases h
  · exact sm_map rfl rfl (by omega) fun p _ => sm_nD _
/-- a text is read as the law reads it -/
theorem fit_matrix {n : Nat} {z : Str} {S : Store} (h : Tx n z) (hn : n ≤ 100000) (hS : OkS S) : ∃ t u, toldM (fn_read_matrix [.str z] S) = pur t S ∧ fn__law_matrix_due [.str z] S = pur u S ∧ fn__law_fits [t, u] S = pur (.bl true) S :=
  fits_read (read_matrix h hn hS) (matrix_due h (by omega) S) sm_rows
theorem fit_vector {n : Nat} {z : Str} {S : Store} (h : Tx n z) (hn : n ≤ 100000) (hS : OkS S) : ∃ t u, toldM (fn_read_vector [.str z] S) = pur t S ∧ fn__law_vector_due [.str z] S = pur u S ∧ fn__law_fits [t, u] S = pur (.bl true) S :=
  fits_read (read_vector h hn hS) (vector_due h (by omega) S) sm_vec
end Z


set_option Elab.async false
set_option linter.all false
set_option maxRecDepth 100000
set_option maxHeartbeats 4000000
namespace Z
open PySem PySem.Spec PyProof.Rows L2
/-! ## drawn things -/
/-- a loop that goes to its end -/
theorem for_inv {α : Type} {stay : Store → Bool} {tg : D → Store → Rho → Option Rho} {body : Rho → Store → MS} (g : α → D) (I : Nat → Rho → Store → Prop) (N : Nat) : ∀ (l : List α) (k : Nat) (ρ : Rho) (S : Store), k + l.length ≤ N → I k ρ S → (∀ k ρ S, I k ρ S → stay S = true) →
    (∀ x ∈ l, ∀ k ρ S, k < N → I k ρ S → ∃ ρ1 ρ2 S2, tg (g x) S ρ = some ρ1 ∧ body ρ1 S = pur (.nx ρ2) S2 ∧ I (k + 1) ρ2 S2) →
    ∃ ρ' S', forF stay tg body (l.map g) ρ S = pur (.nx ρ') S' ∧ I (k + l.length) ρ' S'
  | [], k, ρ, S, hN, hI, hs, _ => ⟨ρ, S, by simp [forF, hs k ρ S hI], by simpa using hI⟩
  | x :: r, k, ρ, S, hN, hI, hs, h => by
    simp only [List.length_cons] at hN
    obtain ⟨ρ1, ρ2, S2, h1, h2, h3⟩ := h x List.mem_cons_self k ρ S (by omega) hI
    obtain ⟨ρ', S', k1, k2⟩ := for_inv g I N r (k + 1) ρ2 S2 (by omega) h3 hs fun y hy => h y (List.mem_cons_of_mem _ hy)
    refine ⟨ρ', S', ?_, by rw [List.length_cons, ← Nat.add_assoc, Nat.add_right_comm]; exact k2⟩
    simp only [List.map_cons, forF, hs k ρ S hI, if_true, h1, h2, pur] at k1 ⊢
    exact k1
theorem pick {α : Type} (l : List α) {v : Int} (h0 : 0 ≤ v) (h1 : v < l.length) : ∃ x ∈ l, ∃ n : Nat, v = (n : Nat) ∧ l[n]? = some x := by
  obtain ⟨n, rfl⟩ := Int.eq_ofNat_of_zero_le h0
  have hn : n < l.length := by omega
  exact ⟨l[n], List.getElem_mem hn, n, rfl, List.getElem?_eq_getElem hn⟩
theorem pick_tup {l : List D} {v : Int} (h0 : 0 ≤ v) (h1 : v < l.length) : ∃ x ∈ l, ∀ S, ixD (.tup l) (.int v) S = pur x S := by
  obtain ⟨x, hx, n, rfl, hn⟩ := pick l h0 h1
  exact ⟨x, hx, fun S => ix_tup hn⟩
theorem pick_str {z : Str} {v : Int} (h0 : 0 ≤ v) (h1 : v < z.length) (hf : fits z.length = true) : ∃ c ∈ TL.tl z, ∀ S, ixD (.str z) (.int v) S = pur (.str ⟨#[c]⟩) S := by
  have hl := TL.len_tl z
  obtain ⟨x, hx, n, rfl, hn⟩ := pick (TL.tl z) h0 (by omega)
  refine ⟨x, hx, fun S => ?_⟩
  have hk := (List.getElem?_eq_some_iff.mp hn).1
  have e := (List.getElem?_eq_some_iff.mp hn).2
  have hn' : z.cps.toList[n]? = some x := hn
  have hk' : n < z.cps.toList.length := hk
  simp only [ixD, hf, if_true, atI, ixN]
  have h2 : ¬ ((n : Nat) : Int) < 0 := by omega
  have h3 : ((n : Nat) : Int) < z.cps.toList.length := by omega
  simp only [h0, h3, if_true, Int.toNat_natCast, Option.bind_some, hn']
@[simp] theorem tup_n (ds : List D) {S : Store} : tupD ds S = if fits ds.length then pur (.tup ds) S else none := rfl
@[simp] theorem mod_int {S : Store} (i j : Int) : modD (.int i) (.int j) S = if j ≠ 0 then some (.int (i.fmod j), S) else none := rfl
theorem law_one {o : O} (ho : Src o) (L : Store) : ∃ v o', fn__law_one [.ptr 0] (o :: L) = pur (.int v) (o' :: L) ∧ Src o' ∧ -1000000 ≤ v ∧ v ≤ 1000000 := by
  obtain ⟨k, o1, e1, h1, k0, k1⟩ := draw_spec ho (L := L) (m := 7) (by decide) (by decide)
  obtain ⟨x, hx, e0⟩ := pick_tup (l := [.int 10, .int 10, .int 100, .int 1000, .int 100000, .int 1000000, .int 2]) k0 (by simpa using k1)
  have hm : ∃ m : Int, x = .int m ∧ 2 ≤ m ∧ m ≤ 1000000 := by
    simp only [List.mem_cons, List.not_mem_nil, or_false] at hx
    rcases hx with rfl | rfl | rfl | rfl | rfl | rfl | rfl <;> exact ⟨_, rfl, by decide, by decide⟩
  obtain ⟨m, rfl, m0, m1⟩ := hm
  obtain ⟨t, o2, e2, h2, t0, t1⟩ := draw_spec h1 (L := L) (m := m + 1) (by omega) (by omega)
  obtain ⟨w, o3, e3, h3, w0, w1⟩ := draw_spec h2 (L := L) (m := 2) (by decide) (by decide)
  rw [fn__law_one, retF_fin]
  have es : startR nm__law_one [.ptr 0] = [some (.ptr 0), none, none] := rfl
  simp only [ir__law_one, es]
  refine ⟨if w = 0 then -t else t, o3, ?_, h3, by split <;> omega, by split <;> omega⟩
  refine st_nx (ρ' := [some (.ptr 0), some (.int m), none]) (S' := o1 :: L) (by simp [e1, e0, fits]) ?_
  refine st_nx (ρ' := [some (.ptr 0), some (.int m), some (.int t)]) (S' := o2 :: L) (by simp [e2]) ?_
  refine st_rt (d := .int (if w = 0 then -t else t)) (S' := o3 :: L) ?_ (by simp)
  by_cases c : w = 0 <;> simp [e3, c]
def wordL : List Str := ["", "+1", "01", "-0", "00", "1000001", "-1000001", "9999999", "10000000", "1.0", "1e3", "--1", "-", "1_0", "a", "-01", "0x1", "1000000", "-1000000", "0"]
theorem wordL_tx : ∀ z ∈ wordL, Tx 8 z := by
  unfold wordL
  simp only [List.forall_mem_cons]
  exact ⟨tx_of _ _ (by decide +kernel), tx_of _ _ (by decide +kernel), tx_of _ _ (by decide +kernel), tx_of _ _ (by decide +kernel), tx_of _ _ (by decide +kernel), tx_of _ _ (by decide +kernel), tx_of _ _ (by decide +kernel), tx_of _ _ (by decide +kernel), tx_of _ _ (by decide +kernel), tx_of _ _ (by decide +kernel), tx_of _ _ (by decide +kernel), tx_of _ _ (by decide +kernel), tx_of _ _ (by decide +kernel), tx_of _ _ (by decide +kernel), tx_of _ _ (by decide +kernel), tx_of _ _ (by decide +kernel), tx_of _ _ (by decide +kernel), tx_of _ _ (by decide +kernel), tx_of _ _ (by decide +kernel), tx_of _ _ (by decide +kernel), by simp⟩
theorem law_word {o : O} (ho : Src o) (L : Store) : ∃ z o', fn__law_word [.ptr 0] (o :: L) = pur (.str z) (o' :: L) ∧ Src o' ∧ Tx 8 z := by
  obtain ⟨k, o1, e1, h1, k0, k1⟩ := draw_spec ho (L := L) (m := 20) (by decide) (by decide)
  obtain ⟨x, hx, e0⟩ := pick_tup (l := wordL.map .str) k0 (by simpa [wordL] using k1)
  obtain ⟨z, hz, rfl⟩ := List.mem_map.mp hx
  rw [fn__law_word, retF_fin]
  have es : startR nm__law_word [.ptr 0] = [some (.ptr 0), none] := rfl
  simp only [ir__law_word, es]
  refine ⟨z, o1, ?_, h1, wordL_tx z hz⟩
  refine st_nx (ρ' := [some (.ptr 0), some (.tup ((wordL.take 15).map .str))]) (S' := o :: L) (by simp [fits, wordL]) ?_
  refine st_nx (ρ' := [some (.ptr 0), some (.tup (wordL.map .str))]) (S' := o :: L) (by simp [fits, wordL]) ?_
  refine st_rt (d := .str z) (S' := o1 :: L) ?_ (by simp)
  have hl : ((wordL.map D.str).length : Int) = 20 := by simp [wordL]
  simp only [rs_ret, re_ix, re_var, var_0, var_s, bnd_pur, re_call, res_cons, res_nil, re_bi, bi_len, len_tup, lft_some, hl, List.length_cons, List.length_nil, if_true, e1, e0]
end Z


set_option Elab.async false
set_option linter.all false
set_option maxRecDepth 100000
set_option maxHeartbeats 4000000
namespace Z
open PySem PySem.Spec PyProof.Rows L2
/-! ## bent texts -/
section
variable {S : Store} {a b : Str} {n k : Nat} {m : Bool}
theorem add_tx (ha : Tx n a) (hb : Tx k b) (h : n + k ≤ 16777216) : addD m (.str a) (.str b) S = some (.str (a ++ b), S) := by
  rw [add_str, if_pos (fits_le (by have := ha.1; have := hb.1; omega))]
theorem len_tx (ha : Tx n a) (h : n ≤ 16777216) : lenD [.str a] S = some (.int a.length, S) := by
  rw [len_str, if_pos (ha.fits h)]
theorem sl_tx (ha : Tx n a) (h : n ≤ 16777216) (lo hi : Option Int) : slD m (.str a) lo hi S = some (.str (cutS a lo hi), S) := by
  rw [sl_str, if_pos (ha.fits h)]
theorem rb_nx {s : IS} {r : ISs} {ρ ρ' : Rho} {S' : Store} {X : MS} (h : runS ρ s S = pur (.nx ρ') S') (k : runB r ρ' S' = X) : runB (.cons s r) ρ S = X := by
  rw [rb_cons, h, ss_nx, k]
end
theorem rng_small {ρ : Rho} {e : IE} {v : Int} {S S' : Store} (h : runE ρ e S = pur (.int v) S') (h0 : 0 ≤ v) (h1 : v ≤ 16777216) : runI ρ (.rng1 e) S = pur ⟨(List.range' 0 v.toNat).map fun i => .int (i : Nat), fun _ => true⟩ S' := by
  obtain ⟨n, rfl⟩ := Int.eq_ofNat_of_zero_le h0
  rw [ri_rng1, h, bnd_pur, bnd_pur]
  exact rng_nat (by omega)
def bentB : ISs := (.cons (.asg (.nm 3) (.call "_law_draw" 2 fn__law_draw (.cons (.var 0) (.cons (.bin false .Add (.bi .len (.cons (.var 1) .nil)) (.int 1)) .nil))))
  (.cons (.asg (.nm 4) (.ix (.str "0123456789-- \n,;+x.,") (.call "_law_draw" 2 fn__law_draw (.cons (.var 0) (.cons (.int 20) .nil)))))
  (.cons (.asg (.nm 5) (.call "_law_draw" 2 fn__law_draw (.cons (.var 0) (.cons (.int 4) .nil))))
  (.cons (.ife (.cmp .Eq (.var 5) (.int 0)) (.cons (.asg (.nm 1) (.bin false .Add (.bin false .Add (.sl false (.var 1) .no (.yes (.var 3))) (.var 4)) (.sl false (.var 1) (.yes (.var 3)) .no)))
  .nil) .nil)
  (.cons (.ife (.cmp .Eq (.var 5) (.int 1)) (.cons (.asg (.nm 1) (.bin false .Add (.sl false (.var 1) .no (.yes (.var 3))) (.sl false (.var 1) (.yes (.bin false .Add (.var 3) (.int 1))) .no)))
  .nil) .nil)
  (.cons (.ife (.cmp .Eq (.var 5) (.int 2)) (.cons (.asg (.nm 1) (.bin false .Add (.bin false .Add (.sl false (.var 1) .no (.yes (.var 3))) (.var 4)) (.sl false (.var 1) (.yes (.bin false .Add (.var 3) (.int 1))) .no)))
  .nil) .nil)
  (.cons (.ife (.and (.cons (.cmp .Eq (.var 5) (.int 3)) (.cons (.cmp .Lt (.var 3) (.bi .len (.cons (.var 1) .nil))) .nil))) (.cons (.asg (.nm 1) (.bin false .Add (.bin false .Add (.sl false (.var 1) .no (.yes (.var 3))) (.ix (.var 1) (.var 3))) (.sl false (.var 1) (.yes (.var 3)) .no)))
  .nil) .nil)
  .nil)))))))
theorem bent_one {o : O} (ho : Src o) (L : Store) {z : Str} {n : Nat} (hz : Tx n z) (hn : n ≤ 1000000) (x2 x3 x4 x5 : Option D) : ∃ z' o' y3 y4 y5, runB bentB [some (.ptr 0), some (.str z), x2, x3, x4, x5] (o :: L) = pur (.nx [some (.ptr 0), some (.str z'), x2, y3, y4, y5]) (o' :: L) ∧ Src o' ∧ Tx (2 * n + 1) z' := by
  have hl := hz.1
  obtain ⟨at', o1, e1, h1, a0, a1⟩ := draw_spec ho (L := L) (m := z.length + 1) (by omega) (by omega)
  obtain ⟨k, o2, e2, h2, k0, k1⟩ := draw_spec h1 (L := L) (m := 20) (by decide) (by decide)
  have l20 : ("0123456789-- \n,;+x.," : Str).length = 20 := by decide +kernel
  obtain ⟨c, hc, e3⟩ := pick_str (z := "0123456789-- \n,;+x.,") k0 (by rw [l20]; exact k1) (by rw [l20]; rfl)
  have tc : Tx 1 ⟨#[c]⟩ := tx_one (tx_lit "0123456789-- \n,;+x.," (by rw [l20]; decide)) hc
  obtain ⟨w, o3, e4, h3, w0, w1⟩ := draw_spec h2 (L := L) (m := 4) (by decide) (by decide)
  have tl : Tx n (cutS z none (some at')) := hz.cut _ _
  have tr : Tx n (cutS z (some at') none) := hz.cut _ _
  have tr1 : Tx n (cutS z (some (at' + 1)) none) := hz.cut _ _
  have s0 := fun lo hi => sl_tx (m := false) (S := o3 :: L) hz (by omega) lo hi
  have ln := fun S => len_tx (S := S) hz (by omega)
  have ad1 := add_tx (m := false) (S := o3 :: L) tl tc (by omega)
  have ad2 := add_tx (m := false) (S := o3 :: L) (tl.append tc) tr (by omega)
  have ad3 := add_tx (m := false) (S := o3 :: L) (tl.append tc) tr1 (by omega)
  have ad4 := add_tx (m := false) (S := o3 :: L) tl tr1 (by omega)
  unfold bentB
  rw [rb_nx (ρ' := [some (.ptr 0), some (.str z), x2, some (.int at'), x4, x5]) (S' := o1 :: L) (by simp [-len_str, ln, e1]) rfl,
    rb_nx (ρ' := [some (.ptr 0), some (.str z), x2, some (.int at'), some (.str ⟨#[c]⟩), x5]) (S' := o2 :: L) (by simp [e2, e3]) rfl,
    rb_nx (ρ' := [some (.ptr 0), some (.str z), x2, some (.int at'), some (.str ⟨#[c]⟩), some (.int w)]) (S' := o3 :: L) (by simp [e4]) rfl]
  have hw : w = 0 ∨ w = 1 ∨ w = 2 ∨ w = 3 := by omega
  rcases hw with rfl | rfl | rfl | rfl
  · refine ⟨cutS z none (some at') ++ ⟨#[c]⟩ ++ cutS z (some at') none, o3, some (.int at'), some (.str ⟨#[c]⟩), some (.int 0), ?_, h3, ((tl.append tc).append tr).mono (by omega)⟩
    simp [-sl_str, -add_str, -len_str, s0, ad1, ad2]
  · refine ⟨cutS z none (some at') ++ cutS z (some (at' + 1)) none, o3, some (.int at'), some (.str ⟨#[c]⟩), some (.int 1), ?_, h3, (tl.append tr1).mono (by omega)⟩
    simp [-sl_str, -add_str, -len_str, s0, ad4]
  · refine ⟨cutS z none (some at') ++ ⟨#[c]⟩ ++ cutS z (some (at' + 1)) none, o3, some (.int at'), some (.str ⟨#[c]⟩), some (.int 2), ?_, h3, ((tl.append tc).append tr1).mono (by omega)⟩
    simp [-sl_str, -add_str, -len_str, s0, ad1, ad3]
  · by_cases hlt : at' < z.length
    · obtain ⟨d, hd, e5⟩ := pick_str (z := z) a0 hlt (hz.fits (by omega))
      have td : Tx 1 ⟨#[d]⟩ := tx_one hz hd
      have ad5 := add_tx (m := false) (S := o3 :: L) tl td (by omega)
      have ad6 := add_tx (m := false) (S := o3 :: L) (tl.append td) tr (by omega)
      refine ⟨cutS z none (some at') ++ ⟨#[d]⟩ ++ cutS z (some at') none, o3, some (.int at'), some (.str ⟨#[c]⟩), some (.int 3), ?_, h3, ((tl.append td).append tr).mono (by omega)⟩
      simp [-sl_str, -add_str, -len_str, s0, ln, hlt, e5, ad5, ad6]
    · refine ⟨z, o3, some (.int at'), some (.str ⟨#[c]⟩), some (.int 3), ?_, h3, hz.mono (by omega)⟩
      simp [-sl_str, -add_str, -len_str, ln, hlt]
theorem law_bent {o : O} (ho : Src o) (L : Store) {z : Str} {n : Nat} (hz : Tx n z) (hn : n ≤ 10000) : ∃ z' o', fn__law_bent [.ptr 0, .str z] (o :: L) = pur (.str z') (o' :: L) ∧ Src o' ∧ Tx (27 * n + 27) z' := by
  obtain ⟨t, o1, e1, h1, t0, t1⟩ := draw_spec ho (L := L) (m := 3) (by decide) (by decide)
  rw [fn__law_bent, retF_fin]
  have es : startR nm__law_bent [.ptr 0, .str z] = [some (.ptr 0), some (.str z), none, none, none, none] := rfl
  simp only [ir__law_bent, es]
  have rn := rng_small (ρ := [some (.ptr 0), some (.str z), none, none, none, none]) (e := .bin false .Add (.int 1) (.call "_law_draw" 2 fn__law_draw (.cons (.var 0) (.cons (.int 3) .nil)))) (v := 1 + t) (S := o :: L) (S' := o1 :: L) (by simp [e1]) (by omega) (by omega)
  obtain ⟨ρ', S', k1, k2⟩ := for_inv (stay := fun _ => true) (tg := tgM (.nm 2)) (body := fun ρ' S' => runB bentB ρ' S') (fun i : Nat => .int (i : Nat)) (fun k ρ S => ∃ z' o' y2 y3 y4 y5, ρ = [some (.ptr 0), some (.str z'), y2, y3, y4, y5] ∧ S = o' :: L ∧ Src o' ∧ Tx (3 ^ k * (n + 1)) z') 3 (List.range' 0 (1 + t).toNat) 0 [some (.ptr 0), some (.str z), none, none, none, none] (o1 :: L)
    (by rw [List.length_range']; omega) ⟨z, o1, none, none, none, none, rfl, rfl, h1, hz.mono (by omega)⟩ (fun _ _ _ _ => rfl) (by
      rintro i hi k ρ S hk ⟨z', o', y2, y3, y4, y5, rfl, rfl, s', tz⟩
      have hb : 3 ^ k * (n + 1) ≤ 9 * (n + 1) := Nat.mul_le_mul_right _ (by
        have : k = 0 ∨ k = 1 ∨ k = 2 := by omega
        rcases this with rfl | rfl | rfl <;> decide)
      obtain ⟨z2, o2, w3, w4, w5, b1, b2, b3⟩ := bent_one s' L tz (by omega) (some (.int (i : Nat))) y3 y4 y5
      refine ⟨_, _, _, rfl, b1, z2, o2, _, _, _, _, rfl, rfl, b2, b3.mono ?_⟩
      have : 1 ≤ 3 ^ k * (n + 1) := Nat.mul_pos (Nat.pow_pos (by decide)) (by omega)
      rw [Nat.pow_succ, Nat.mul_right_comm]
      omega)
  obtain ⟨z', o', y2, y3, y4, y5, rfl, rfl, s', tz⟩ := k2
  refine ⟨z', o', ?_, s', tz.mono ?_⟩
  · refine st_nx (ρ' := [some (.ptr 0), some (.str z'), y2, y3, y4, y5]) (S' := o' :: L) (loop_of (body := bentB) rn k1) ?_
    exact st_rt (d := .str z') (S' := o' :: L) (by simp) (by simp)
  · rw [List.length_range', Nat.zero_add]
    have h27 : 3 ^ (1 + t).toNat ≤ 27 := by
      have : (1 + t).toNat = 1 ∨ (1 + t).toNat = 2 ∨ (1 + t).toNat = 3 := by omega
      rcases this with e | e | e <;> rw [e] <;> decide
    have := Nat.mul_le_mul_right (n + 1) h27
    omega
end Z


set_option Elab.async false
set_option linter.all false
set_option maxRecDepth 100000
set_option maxHeartbeats 4000000
namespace Z
open PySem PySem.Spec PyProof.Rows L2
/-! ## rows handed in -/
theorem lc_e {α : Type} {own : List (Str × Nat)} {t : Tg} {it : II} {cs : IO} {elt : IE} {ρ : Rho} {S : Store} {w : Wk} (l : List α) (g f : α → D) (hit : runI ρ it S = pur w S) (hw : w.items = l.map g) (hs : w.stay S = true) (hf : l.length ≤ 16777216)
    (h : ∀ x ∈ l, ∃ ρ', tgM t (g x) S (wipeR ρ (own.map (·.2))) = some ρ' ∧ runC ρ' cs S = pur true S ∧ runE ρ' elt S = pur (f x) S) : runE ρ (.lc false own t it cs elt) S = pur (.lst (l.map f)) S := by
  rw [re_lc, hit, bnd_pur, lc_of (m := false) l g f hw hs (fits_le hf) h]
  rfl
theorem pyDs_map {α : Type} {S : Store} {n : Nat} {f : α → D} {g : α → PyData} : ∀ {l : List α}, (∀ x ∈ l, pyD S n (f x) = some (g x)) → pyDs S n (l.map f) = some (l.map g)
  | [], _ => by simp [pyDs]
  | x :: r, h => by
    simp only [List.map_cons, pyDs, h x List.mem_cons_self, pyDs_map fun y hy => h y (List.mem_cons_of_mem _ hy)]
theorem canLay_map {α : Type} {g : α → PyData} : ∀ {l : List α}, (∀ x ∈ l, (g x).canLay0 = true) → PyData.canLayAll0 (l.map g) = true
  | [], _ => by simp [PyData.canLayAll0]
  | x :: r, h => by
    simp only [List.map_cons, PyData.canLayAll0, h x List.mem_cons_self, canLay_map fun y hy => h y (List.mem_cons_of_mem _ hy), Bool.and_self]
theorem depth_map {α : Type} {k : Nat} {g : α → PyData} : ∀ {l : List α}, (∀ x ∈ l, (g x).depth ≤ k) → PyData.depthAll (l.map g) ≤ k
  | [], _ => by simp [PyData.depthAll]
  | x :: r, h => by
    simp only [List.map_cons, PyData.depthAll]
    exact Nat.max_le.mpr ⟨h x List.mem_cons_self, depth_map fun y hy => h y (List.mem_cons_of_mem _ hy)⟩
theorem eqO_py {x y : D} {S : Store} {p : PyData} (hx : pyD S 4 x = some p) (hy : pyD S 4 y = some p) (h : SeqAt.shaped p = true) : eqO x y S = some true := by
  simp only [eqO, hx, hy, h, Bool.and_self, if_true]
  rw [SeqAt.eqv_refl p (SeqAt.canLay_of_shaped h)]
def rowsI (rows : List (List Int)) : D := .lst (rows.map fun r => .lst (r.map .int))
def rowsTI (rows : List (List Int)) : D := .tup (rows.map fun r => .tup (r.map .int))
theorem pyD_ints {S : Store} {n : Nat} (l : List Int) : pyD S n (.lst (l.map .int)) = some (.list (l.map .int)) := by
  rw [pyD, pyDs_map fun x _ => (by simp [pyD] : pyD S n (.int x) = some (.int x))]
  rfl
theorem sh_ints (l : List Int) : SeqAt.shaped (.list (l.map .int)) = true := by
  have h1 : PyData.canLayAll0 (l.map PyData.int) = true := canLay_map fun x _ => by simp [PyData.canLay0]
  have h2 : PyData.depthAll (l.map PyData.int) ≤ 0 := depth_map fun x _ => by simp [PyData.depth]
  have h3 : PyData.depthAll (_) + 1 ≤ 64 := Nat.le_trans (Nat.add_le_add_right h2 1) (by decide)
  simp only [SeqAt.shaped, PyData.canLay0, PyData.depth, h1, h3, decide_true, Bool.true_and]
theorem eq_ints (l : List Int) (S : Store) : eqO (.lst (l.map .int)) (.lst (l.map .int)) S = some true := eqO_py (pyD_ints l) (pyD_ints l) (sh_ints l)
theorem eq_rows (rows : List (List Int)) (S : Store) : eqO (rowsI rows) (rowsI rows) S = some true := by
  have h0 : pyD S 4 (rowsI rows) = some (.list (rows.map fun r => .list (r.map .int))) := by
    rw [rowsI, pyD, pyDs_map fun x _ => pyD_ints x]
    rfl
  refine eqO_py h0 h0 ?_
  have h1 : PyData.canLayAll0 (rows.map fun r => PyData.list (r.map PyData.int)) = true := canLay_map fun x _ => by
    have : PyData.canLayAll0 (x.map PyData.int) = true := canLay_map fun x _ => by simp [PyData.canLay0]
    simp only [PyData.canLay0, this]
  have h2 : PyData.depthAll (rows.map fun r => PyData.list (r.map PyData.int)) ≤ 1 := depth_map fun x _ => by
    have : PyData.depthAll (x.map PyData.int) ≤ 0 := depth_map fun x _ => by simp [PyData.depth]
    simp only [PyData.depth]
    omega
  have h3 : PyData.depthAll (_) + 1 ≤ 64 := Nat.le_trans (Nat.add_le_add_right h2 1) (by decide)
  simp only [SeqAt.shaped, PyData.canLay0, PyData.depth, h1, h3, decide_true, Bool.true_and]
/-- rows as they are handed in -/
def Hd (d : D) (rows : List (List Int)) : Prop := d = rowsI rows ∨ d = rowsTI rows
theorem law_copy {d : D} {rows : List (List Int)} (h : Hd d rows) (hl : rows.length ≤ 8) (hr : ∀ r ∈ rows, r.length ≤ 8) (S : Store) : fn__law_copy [d] S = pur (rowsI rows) S := by
  rw [fn__law_copy, retF_fin]
  have e0 : startR nm__law_copy [d] = [some d, none, none] := rfl
  simp only [ir__law_copy, e0]
  refine st_rt (d := rowsI rows) (S' := S) ?_ (by simp)
  rw [rs_ret]
  have key : ∀ (mk1 : List D → D) (mk2 : List D → D), (∀ ds, seqW (mk1 ds) S = some ⟨ds, fun _ => true⟩) → (∀ ds, seqW (mk2 ds) S = some ⟨ds, fun _ => true⟩) → runE [some (mk1 (rows.map fun r => mk2 (r.map .int))), none, none] (.lc false [("row", 2)] (.nm 2) (.seq (.var 0)) .no (.lc false [("x", 1)] (.nm 1) (.seq (.var 2)) .no (.var 1))) S = pur (rowsI rows) S := by
    intro mk1 mk2 h1 h2
    refine lc_e rows (fun r => mk2 (r.map .int)) (fun r => .lst (r.map .int)) (w := ⟨rows.map fun r => mk2 (r.map .int), fun _ => true⟩) (by simp [h1]) rfl rfl (by omega) fun r hr' => ⟨_, rfl, rfl, ?_⟩
    have := hr r hr'
    exact lc_e r .int .int (w := ⟨r.map .int, fun _ => true⟩) (by simp [h2, wipeR]) rfl rfl (by omega) fun x hx => ⟨_, rfl, rfl, rfl⟩
  rcases h with rfl | rfl
  · rw [rowsI, key .lst .lst (fun _ => rfl) (fun _ => rfl), bnd_pur]
    rfl
  · rw [rowsTI, key .tup .tup (fun _ => rfl) (fun _ => rfl), bnd_pur]
theorem law_tuple {rows : List (List Int)} (hl : rows.length ≤ 8) (S : Store) : fn__law_tuple [rowsI rows] S = pur (rowsTI rows) S := by
  rw [fn__law_tuple, retF_fin]
  have e0 : startR nm__law_tuple [rowsI rows] = [some (rowsI rows), none] := rfl
  simp only [ir__law_tuple, e0]
  refine st_rt (d := rowsTI rows) (S' := S) ?_ (by simp)
  have := lc_e (own := [("row", 1)]) (t := .nm 1) (it := .seq (.var 0)) (cs := .no) (elt := .bi .tuple (.cons (.var 1) .nil)) (ρ := [some (rowsI rows), none]) (S := S) rows (fun r => .lst (r.map .int)) (fun r => .tup (r.map .int)) (w := ⟨rows.map fun r => .lst (r.map .int), fun _ => true⟩) (by simp [rowsI]) rfl rfl (by omega) fun r hr' => ⟨_, rfl, rfl, by simp [wipeR]⟩
  simp [-re_lc, this, rowsTI]
theorem law_handed {o : O} (ho : Src o) (L : Store) {rows : List (List Int)} (hl : rows.length ≤ 8) (hr : ∀ r ∈ rows, r.length ≤ 8) : ∃ d o', fn__law_handed [.ptr 0, rowsI rows] (o :: L) = pur d (o' :: L) ∧ Src o' ∧ Hd d rows := by
  obtain ⟨k, o1, e1, h1, k0, k1⟩ := draw_spec ho (L := L) (m := 2) (by decide) (by decide)
  rw [fn__law_handed, retF_fin]
  have es : startR nm__law_handed [.ptr 0, rowsI rows] = [some (.ptr 0), some (rowsI rows)] := rfl
  simp only [ir__law_handed, es]
  have c1 := law_copy (.inl rfl) hl hr (o1 :: L)
  have c2 := law_tuple hl (o1 :: L)
  by_cases c : k = 0
  · exact ⟨rowsI rows, o1, st_rt (d := rowsI rows) (S' := o1 :: L) (by simp [e1, c, c1]) (by simp), h1, .inl rfl⟩
  · exact ⟨rowsTI rows, o1, st_rt (d := rowsTI rows) (S' := o1 :: L) (by simp [e1, c, c2]) (by simp), h1, .inr rfl⟩
/-- good rows -/
structure Good (rows : List (List Int)) (m : Nat) : Prop where
  ne : rows ≠ []
  l8 : rows.length ≤ 8
  m0 : m ≠ 0
  m8 : m ≤ 8
  row : ∀ r ∈ rows, r.length = m ∧ ∀ v ∈ r, -1000000 ≤ v ∧ v ≤ 1000000
theorem good_mat {d : D} {rows : List (List Int)} {m : Nat} (h : Hd d rows) (g : Good rows m) : pl2 d = true ∧ matB d = true ∧ (its' d).map its' = rows.map fun l => l.map .int := by
  have key : ∀ f : List D → D, (∀ ds, its' (f ds) = ds) → (∀ ds, isRow (f ds) = true) → (∀ ds, pl (f ds) = true) → ∀ d, pl d = true → isRow d = true → its' d = (rows.map fun r => f (r.map .int)) → pl2 d = true ∧ matB d = true ∧ (its' d).map its' = rows.map fun l => l.map .int := by
    intro f h1 h2 h3 d h4 h5 h6
    have hv : ∀ r ∈ rows, vecB (f (r.map .int)) = true := by
      intro r hr
      obtain ⟨a, b⟩ := g.row r hr
      have b' : (r.map D.int).all (inR (-1000000) 1000000) = true := by
        rw [List.all_map, List.all_eq_true]
        intro v hv
        have := b v hv
        simp [inR]
        exact this
      simp only [vecB, h2, h1, List.length_map, a, b', Bool.true_and, Bool.and_true, Bool.and_eq_true, decide_eq_true_eq]
      have := g.m0
      have := g.m8
      omega
    refine ⟨?_, ?_, ?_⟩
    · simp only [pl2, h4, h6, Bool.true_and, List.all_map, List.all_eq_true]
      intro r hr
      simp only [Function.comp_apply, h3, h1, Bool.true_and, List.all_map, List.all_eq_true]
      intro v _
      rfl
    · have hne : rows.length ≠ 0 := fun z => g.ne (List.length_eq_zero_iff.mp z)
      have h8 := g.l8
      simp only [matB, sz8, h5, h6, List.length_map, Bool.true_and, List.all_map, Bool.and_eq_true, decide_eq_true_eq, List.all_eq_true, Function.comp_apply]
      refine ⟨⟨⟨by omega, by omega⟩, hv⟩, fun r hr => ?_⟩
      have hf : ((its' (fsR d)).length : Int) = m := by
        unfold fsR
        rw [h6]
        cases hr0 : rows with
        | nil => exact absurd hr0 g.ne
        | cons a b =>
          have := (g.row a (by rw [hr0]; exact List.mem_cons_self)).1
          simp [h1, this]
      rw [hf, h1, List.length_map, (g.row r hr).1]
    · rw [h6, List.map_map]
      exact List.map_congr_left fun r _ => by simp [h1]
  rcases h with rfl | rfl
  · exact key .lst (fun _ => rfl) (fun _ => rfl) (fun _ => rfl) _ rfl rfl rfl
  · exact key .tup (fun _ => rfl) (fun _ => rfl) (fun _ => rfl) _ rfl rfl rfl
end Z


set_option Elab.async false
set_option linter.all false
set_option maxRecDepth 100000
set_option maxHeartbeats 4000000
namespace Z
open PySem PySem.Spec PyProof.Rows L2
/-! ## rows of words -/
def wD (W : List (List Str)) : D := .lst (W.map fun r => .lst (r.map .str))
def txt (W : List (List Str)) : Str := Txt.join "\n" (W.map fun r => Txt.join " " r)
structure Tidy (W : List (List Str)) : Prop where
  l : W.length ≤ 17
  row : ∀ r ∈ W, r.length ≤ 17 ∧ ∀ w ∈ r, Tx 8 w
theorem tx_words {r : List Str} (h : r.length ≤ 17 ∧ ∀ w ∈ r, Tx 8 w) : Tx 153 (Txt.join " " r) := by
  refine (tx_join' (n := 8) (k := 1) (tx_of " " 1 (by decide +kernel)) h.2).mono ?_
  have := h.1
  omega
theorem Tidy.tx {W : List (List Str)} (h : Tidy W) : Tx 3000 (txt W) := by
  refine (tx_join' (n := 153) (k := 1) (tx_of "\n" 1 (by decide +kernel)) ?_).mono ?_
  · intro p hp
    obtain ⟨r, hr, rfl⟩ := List.mem_map.mp hp
    exact tx_words (h.row r hr)
  · rw [List.length_map]
    have := h.l
    omega
theorem join_rows {ρ : Rho} {S : Store} {e e2 : IE} {own : List (Str × Nat)} (l : List (D × List Str)) (hi : wipeR ρ (own.map (·.2)) = ρ.set 4 none) (h4 : 4 < ρ.length) (he : runE ρ e S = pur (.lst (l.map (·.1))) S) (h2 : ∀ p ∈ l, ∃ d, runE ((ρ.set 4 none).set 4 (some p.1)) e2 S = pur d S ∧ itsD S d = some (p.2.map .str)) (ht : Tidy (l.map (·.2))) :
    runE ρ (.meth .join (.str "\n") (.lc false own (.nm 4) (.seq e) .no (.meth .join (.str " ") e2))) S = pur (.str (txt (l.map (·.2)))) S := by
  have hl := ht.l
  rw [List.length_map] at hl
  have h1 := lc_e (own := own) (t := .nm 4) (it := .seq e) (cs := .no) (elt := .meth .join (.str " ") e2) (ρ := ρ) (S := S) l (·.1) (fun p => .str (Txt.join " " p.2)) (w := ⟨l.map (·.1), fun _ => true⟩) (by simp [he]) rfl rfl (by omega) fun p hp => ⟨_, rfl, rfl, by
    obtain ⟨d, e1, e3⟩ := h2 p hp
    have hr := ht.row p.2 (List.mem_map.mpr ⟨p, hp, rfl⟩)
    have jn := join_tx (S := S) (y := " ") (x := d) (l := p.2) (n := 8) (k := 1) e3 hr.2 (tx_of " " 1 (by decide +kernel)) (by have := hr.1; omega)
    rw [hi, re_meth, re_str, bnd_pur, ck_join, if_pos rfl, e1, bnd_pur, sm_join, jn]
    rfl⟩
  have jn := join_tx (S := S) (y := "\n") (x := .lst (l.map fun p => .str (Txt.join " " p.2))) (l := l.map fun p => Txt.join " " p.2) (n := 153) (k := 1) (by simp [itsD]) (by
    intro q hq
    obtain ⟨p, hp, rfl⟩ := List.mem_map.mp hq
    exact tx_words (ht.row p.2 (List.mem_map.mpr ⟨p, hp, rfl⟩))) (tx_of "\n" 1 (by decide +kernel)) (by rw [List.length_map]; omega)
  rw [re_meth, re_str, bnd_pur, ck_join, if_pos rfl, h1, bnd_pur, sm_join, jn]
  simp [txt, List.map_map]
  rfl
theorem join_wD {ρ : Rho} {S : Store} {e : IE} {own : List (Str × Nat)} {W : List (List Str)} (hi : wipeR ρ (own.map (·.2)) = ρ.set 4 none) (h4 : 4 < ρ.length) (he : runE ρ e S = pur (wD W) S) (ht : Tidy W) :
    runE ρ (.meth .join (.str "\n") (.lc false own (.nm 4) (.seq e) .no (.meth .join (.str " ") (.var 4)))) S = pur (.str (txt W)) S := by
  have hm : (W.map fun r => ((.lst (r.map .str) : D), r)).map (·.2) = W := by
    rw [List.map_map]
    exact List.map_id' W
  have := join_rows (ρ := ρ) (S := S) (e := e) (e2 := .var 4) (own := own) (W.map fun r => (.lst (r.map .str), r)) hi h4 (by rw [he, wD, List.map_map]; rfl) (by
    intro p hp
    obtain ⟨r, hr, rfl⟩ := List.mem_map.mp hp
    exact ⟨.lst (r.map .str), by simp [varD, h4], rfl⟩) (by rw [hm]; exact ht)
  rw [this, hm]
def cutA {α : Type} (l : List α) (lo hi : Option Int) : List α := (l.drop (HT.sIx l.length 0 lo)).take (HT.sIx l.length l.length hi - HT.sIx l.length 0 lo)
theorem cutA_map {α : Type} (f : α → D) (l : List α) (lo hi : Option Int) : cutD (l.map f) lo hi = (cutA l lo hi).map f := by
  simp [cutD, cutA, List.map_take, List.map_drop]
theorem cutA_mem {α : Type} {l : List α} {lo hi : Option Int} {x : α} (h : x ∈ cutA l lo hi) : x ∈ l := List.mem_of_mem_drop (List.mem_of_mem_take h)
theorem cutA_len {α : Type} (l : List α) (lo hi : Option Int) : (cutA l lo hi).length ≤ l.length := by
  simp only [cutA, List.length_take, List.length_drop]
  omega
theorem sl_map {α : Type} (f : α → D) (l : List α) (lo hi : Option Int) (S : Store) (h : l.length ≤ 16777216) : slD false (.lst (l.map f)) lo hi S = some (.lst ((cutA l lo hi).map f), S) := by
  have := cutA_len l lo hi
  simp only [slD, seqD, cutA_map, mk_f, List.length_map]
  rw [if_pos (fits_le (by omega))]
theorem add_map {α : Type} (f : α → D) (a b : List α) (S : Store) (h : a.length + b.length ≤ 16777216) : addD false (.lst (a.map f)) (.lst (b.map f)) S = some (.lst ((a ++ b).map f), S) := by
  rw [add_lst, mk_f, if_pos (fits_le (by simpa using h)), List.map_append]
/-- a comprehension of new lists of the store -/
theorem lc_t {α : Type} {own : List (Str × Nat)} {t : Tg} {it : II} {cs : IO} {elt : IE} {ρ : Rho} {S : Store} {w : Wk} (l : List α) (g f : α → D) (hit : runI ρ it S = pur w S) (hw : w.items = l.map g) (hs : w.stay S = true) (hf : l.length ≤ 16777216)
    (h : ∀ x ∈ l, ∃ ρ', tgM t (g x) S (wipeR ρ (own.map (·.2))) = some ρ' ∧ runC ρ' cs S = pur true S ∧ runE ρ' elt S = pur (f x) S) : runE ρ (.lc true own t it cs elt) S = pur (.ptr S.length) (S ++ [.lst (l.map f)]) := by
  rw [re_lc, hit, bnd_pur, lc_of (m := true) l g f hw hs (fits_le hf) h]
  rfl
theorem lc_ptrs {α : Type} {own : List (Str × Nat)} {t : Tg} {it : II} {cs : IO} {elt : IE} {ρ : Rho} {S : Store} {w : Wk} (l : List α) (g : α → D) (f : α → List D) (hit : runI ρ it S = pur w S) (hw : w.items = l.map g) (hs : ∀ S, w.stay S = true) (hf : l.length ≤ 16777216)
    (h : ∀ x ∈ l, ∀ S, ∃ ρ', tgM t (g x) S (wipeR ρ (own.map (·.2))) = some ρ' ∧ runC ρ' cs S = pur true S ∧ runE ρ' elt S = pur (.ptr S.length) (S ++ [.lst (f x)])) : runE ρ (.lc false own t it cs elt) S = pur (.lst ((List.range' S.length l.length).map .ptr)) (S ++ l.map fun x => .lst (f x)) := by
  have key : ∀ (l : List α) (S : Store), (∀ x ∈ l, ∀ S, ∃ ρ', tgM t (g x) S (wipeR ρ (own.map (·.2))) = some ρ' ∧ runC ρ' cs S = pur true S ∧ runE ρ' elt S = pur (.ptr S.length) (S ++ [.lst (f x)])) →
      lcF w.stay (tgM t) (fun ρ' S1 => runC ρ' cs S1) (fun ρ' S1 => runE ρ' elt S1) (wipeR ρ (own.map (·.2))) (l.map g) S = some ((List.range' S.length l.length).map .ptr, S ++ l.map fun x => .lst (f x)) := by
    intro l
    induction l with
    | nil => intro S _; simp [lcF, hs]
    | cons x r ih =>
      intro S h
      obtain ⟨ρ', h1, h2, h3⟩ := h x List.mem_cons_self S
      simp only [List.map_cons, lcF, hs, if_true, h1, h2, h3, pur]
      rw [ih _ fun y hy => h y (List.mem_cons_of_mem _ hy)]
      simp [List.range'_succ]
  rw [re_lc, hit, bnd_pur, lcM, hw, List.length_map, if_pos (fits_le hf), key l S h]
  simp [fits_le hf]
end Z


set_option Elab.async false
set_option linter.all false
set_option maxRecDepth 100000
set_option maxHeartbeats 4000000
namespace Z
open PySem PySem.Spec PyProof.Rows L2
/-- the lists of V stand in J from j on -/
def Cells (J : Store) (j : Nat) (V : List (List Str)) : Prop := ∀ (i : Nat) (r : List Str), V[i]? = some r → J[j + i]? = some (.lst (r.map .str))
theorem Cells.set {J : Store} {j : Nat} {V : List (List Str)} (h : Cells J j V) {a : Nat} {r r' : List Str} (ha : V[a]? = some r) : Cells (J.set (j + a) (.lst (r'.map .str))) j (V.set a r') := by
  intro i q hi
  by_cases e : a = i
  · subst e
    have hl := (List.getElem?_eq_some_iff.mp ha).1
    rw [List.getElem?_set_self hl] at hi
    cases hi
    have := h a r ha
    have hj := (List.getElem?_eq_some_iff.mp this).1
    rw [List.getElem?_set_self hj]
  · rw [List.getElem?_set_ne e] at hi
    rw [List.getElem?_set_ne (by omega)]
    exact h i q hi
theorem Tidy.set {V : List (List Str)} (h : Tidy V) {a s : Nat} {r : List Str} {w : Str} (ha : V[a]? = some r) (hw : Tx 8 w) : Tidy (V.set a (r.set s w)) := by
  refine ⟨by rw [List.length_set]; exact h.l, fun q hq => ?_⟩
  rcases List.mem_or_eq_of_mem_set hq with hq | rfl
  · exact h.row q hq
  · obtain ⟨h1, h2⟩ := h.row r (List.mem_of_getElem? ha)
    refine ⟨by rw [List.length_set]; exact h1, fun x hx => ?_⟩
    rcases List.mem_or_eq_of_mem_set hx with hx | rfl
    · exact h2 x hx
    · exact hw
theorem word_set {o T : O} {J : Store} (ho : Src o) {V : List (List Str)} {j : Nat} (hc : Cells J j V) {a s : Nat} {r : List Str} (ha : V[a]? = some r) (hs : s < r.length) {ρ : Rho} {e1 e2 : IE} (h0 : ∀ S, varD 0 ρ S = pur (.ptr 0) S)
    (h1 : ∀ S, runE ρ e1 S = pur (.ptr (j + a + 2)) S) (h2 : ∀ S, runE ρ e2 S = pur (.int (s : Nat)) S) :
    ∃ w o', runS ρ (.sub (.call "_law_word" 1 fn__law_word (.cons (.var 0) .nil)) e1 e2) (o :: T :: J) = pur (.nx ρ) (o' :: T :: J.set (j + a) (.lst ((r.set s w).map .str))) ∧ Src o' ∧ Tx 8 w := by
  obtain ⟨w, o', e, h, t⟩ := law_word ho (T :: J)
  refine ⟨w, o', ?_, h, t⟩
  have hj := hc a r ha
  rw [rs_sub]
  simp [h0, e, h1, h2, setI, hj, ixN, hs, List.map_set]
def txB : ISs := (.cons (.asg (.nm 10) (.lc false [("row", 4)] (.nm 4) (.seq (.var 2)) .no (.lc true [("word", 11)] (.nm 11) (.seq (.var 4)) .no (.var 11))))
  (.cons (.sub (.call "_law_word" 1 fn__law_word (.cons (.var 0) .nil)) (.ix (.var 10) (.var 7)) (.var 8))
  (.cons (.ife (.cmp .Eq (.var 9) (.int 2)) (.cons (.asg (.nm 12) (.call "_law_draw" 2 fn__law_draw (.cons (.var 0) (.cons (.bi .len (.cons (.var 1) .nil)) .nil))))
  (.cons (.sub (.call "_law_word" 1 fn__law_word (.cons (.var 0) .nil)) (.ix (.var 10) (.var 12)) (.int 0))
  .nil)) .nil)
  (.cons (.expr (.meth .append (.var 6) (.meth .join (.str "\n") (.lc false [("row", 4)] (.nm 4) (.seq (.var 10)) .no (.meth .join (.str " ") (.var 4))))))
  .nil))))
def ptrs (n k : Nat) : D := .lst ((List.range' n k).map .ptr)
theorem ptrs_get {n k a : Nat} (h : a < k) (S : Store) : ixD (ptrs n k) (.int (a : Nat)) S = pur (.ptr (n + a)) S := by
  refine ix_lst ?_
  rw [List.getElem?_map, List.getElem?_range' (by simpa using h)]
  simp
/-- the text of the lists that stand in the store -/
theorem cells_text {ρ : Rho} {o T : O} {J : Store} {j : Nat} {V : List (List Str)} {e : IE} (hi : wipeR ρ [4] = ρ.set 4 none) (h4 : 4 < ρ.length) (hc : Cells J j V) (ht : Tidy V) (he : ∀ S, runE ρ e S = pur (ptrs (j + 2) V.length) S) :
    runE ρ (.meth .join (.str "\n") (.lc false [("row", 4)] (.nm 4) (.seq e) .no (.meth .join (.str " ") (.var 4)))) (o :: T :: J) = pur (.str (txt V)) (o :: T :: J) := by
  have hf : ((((List.range' (j + 2) V.length).map D.ptr).zip V).map (·.1)) = (List.range' (j + 2) V.length).map D.ptr := List.map_fst_zip (by simp)
  have hs : ((((List.range' (j + 2) V.length).map D.ptr).zip V).map (·.2)) = V := List.map_snd_zip (by simp)
  have := join_rows (ρ := ρ) (S := o :: T :: J) (e := e) (e2 := .var 4) (own := [("row", 4)]) (((List.range' (j + 2) V.length).map D.ptr).zip V) hi h4 (by rw [he, hf]; rfl) (by
    intro p hp
    obtain ⟨i, h'⟩ := List.mem_iff_getElem?.mp hp
    rw [List.getElem?_zip_eq_some] at h'
    obtain ⟨a1, a2⟩ := h'
    have hl := (List.getElem?_eq_some_iff.mp a2).1
    rw [List.getElem?_map, List.getElem?_range' hl] at a1
    simp at a1
    refine ⟨p.1, by simp [varD, h4], ?_⟩
    rw [← a1]
    have := hc i p.2 a2
    have e : j + 2 + i = (j + i) + 1 + 1 := by omega
    simp only [itsD]
    rw [e, List.getElem?_cons_succ, List.getElem?_cons_succ, this]) (by rw [hs]; exact ht)
  rw [this, hs]
theorem rowsI_len {rows : List (List Int)} {S : Store} : lenD [rowsI rows] S = some (.int rows.length, S) := by simp [rowsI]
theorem txt_one {o : O} (ho : Src o) {ts : List Str} {J : Store} {rows : List (List Int)} {W : List (List Str)} (hW : Tidy W) {a s t : Nat} (ha : a < W.length) (hs : ∀ r ∈ W, s < r.length) (hlen : rows.length = W.length) (hts : ts.length ≤ 100) (x3 x4 x5 x10 x11 x12 x13 x14 : Option D) :
    ∃ z o' J' y10 y12, runB txB [some (.ptr 0), some (rowsI rows), some (wD W), x3, x4, x5, some (.ptr 1), some (.int (a : Nat)), some (.int (s : Nat)), some (.int (t : Nat)), x10, x11, x12, x13, x14] (o :: .lst (ts.map .str) :: J) =
      pur (.nx [some (.ptr 0), some (rowsI rows), some (wD W), x3, x4, x5, some (.ptr 1), some (.int (a : Nat)), some (.int (s : Nat)), some (.int (t : Nat)), y10, x11, y12, x13, x14]) (o' :: .lst ((ts ++ [z]).map .str) :: J') ∧ Src o' ∧ Tx 3000 z := by
  have hl := hW.l
  have l0 := lc_ptrs (own := [("row", 4)]) (t := .nm 4) (it := .seq (.var 2)) (cs := .no) (elt := .lc true [("word", 11)] (.nm 11) (.seq (.var 4)) .no (.var 11)) (ρ := [some (.ptr 0), some (rowsI rows), some (wD W), x3, x4, x5, some (.ptr 1), some (.int (a : Nat)), some (.int (s : Nat)), some (.int (t : Nat)), x10, x11, x12, x13, x14]) (S := o :: .lst (ts.map .str) :: J)
    (w := ⟨W.map fun r => .lst (r.map .str), fun _ => true⟩) W (fun r => .lst (r.map .str)) (fun r => r.map .str) (by simp [wD]) rfl (fun _ => rfl) (by omega) (fun r hr S => ⟨_, rfl, rfl, by
      have := (hW.row r hr).1
      exact lc_t r .str .str (w := ⟨r.map .str, fun _ => true⟩) (by simp [wipeR]) rfl rfl (by omega) fun x hx => ⟨_, rfl, rfl, by simp [wipeR]⟩⟩)
  have c0 : Cells (J ++ W.map fun r => O.lst (r.map .str)) J.length W := by
    intro i r hi
    rw [List.getElem?_append_right (by omega), Nat.add_sub_cancel_left, List.getElem?_map, hi]
    rfl
  obtain ⟨r, hr⟩ : ∃ r, W[a]? = some r := ⟨_, List.getElem?_eq_getElem ha⟩
  have hn : (o :: O.lst (ts.map .str) :: J).length = J.length + 2 := rfl
  rw [hn] at l0
  obtain ⟨w, o1, e1, h1, t1⟩ := word_set (T := .lst (ts.map .str)) ho c0 hr (hs r (List.mem_of_getElem? hr)) (ρ := [some (.ptr 0), some (rowsI rows), some (wD W), x3, x4, x5, some (.ptr 1), some (.int (a : Nat)), some (.int (s : Nat)), some (.int (t : Nat)), some (ptrs (J.length + 2) W.length), x11, x12, x13, x14]) (e1 := .ix (.var 10) (.var 7)) (e2 := .var 8) (fun S => rfl) (fun S => by
    have := ptrs_get (n := J.length + 2) ha S
    simp [this]
    omega) (fun S => by simp)
  have c1 := c0.set (r' := r.set s w) hr
  have T1 := hW.set (s := s) hr t1
  generalize (J ++ W.map fun r => O.lst (r.map .str)).set (J.length + a) (.lst ((r.set s w).map .str)) = J1 at e1 c1
  have hV1 : (W.set a (r.set s w)).length = W.length := List.length_set
  have hs1 : ∀ q ∈ W.set a (r.set s w), 0 < q.length := by
    intro q hq
    rcases List.mem_or_eq_of_mem_set hq with hq | rfl
    · have := hs q hq; omega
    · have := hs r (List.mem_of_getElem? hr)
      rw [List.length_set]; omega
  generalize W.set a (r.set s w) = V1 at c1 T1 hV1 hs1
  unfold txB
  rw [rb_nx (ρ' := [some (.ptr 0), some (rowsI rows), some (wD W), x3, x4, x5, some (.ptr 1), some (.int (a : Nat)), some (.int (s : Nat)), some (.int (t : Nat)), some (ptrs (J.length + 2) W.length), x11, x12, x13, x14]) (S' := o :: O.lst (ts.map .str) :: (J ++ W.map fun r => O.lst (r.map .str))) (by rw [rs_asg, l0]; simp [ptrs]) rfl]
  rw [rb_nx e1 rfl]
  have key : ∃ y12 o2 J2 V2, runS [some (.ptr 0), some (rowsI rows), some (wD W), x3, x4, x5, some (.ptr 1), some (.int (a : Nat)), some (.int (s : Nat)), some (.int (t : Nat)), some (ptrs (J.length + 2) W.length), x11, x12, x13, x14] (.ife (.cmp .Eq (.var 9) (.int 2)) (.cons (.asg (.nm 12) (.call "_law_draw" 2 fn__law_draw (.cons (.var 0) (.cons (.bi .len (.cons (.var 1) .nil)) .nil))))
  (.cons (.sub (.call "_law_word" 1 fn__law_word (.cons (.var 0) .nil)) (.ix (.var 10) (.var 12)) (.int 0))
  .nil)) .nil) (o1 :: O.lst (ts.map .str) :: J1) = pur (.nx [some (.ptr 0), some (rowsI rows), some (wD W), x3, x4, x5, some (.ptr 1), some (.int (a : Nat)), some (.int (s : Nat)), some (.int (t : Nat)), some (ptrs (J.length + 2) W.length), x11, y12, x13, x14]) (o2 :: O.lst (ts.map .str) :: J2) ∧ Src o2 ∧ Cells J2 J.length V2 ∧ Tidy V2 ∧ V2.length = W.length := by
    by_cases c : (t : Int) = 2
    · obtain ⟨b, o2, e2, h2, b0, b1⟩ := draw_spec h1 (L := O.lst (ts.map .str) :: J1) (m := rows.length) (by omega) (by omega)
      obtain ⟨b, rfl⟩ := Int.eq_ofNat_of_zero_le b0
      have hb : b < W.length := by omega
      obtain ⟨r2, hr2⟩ : ∃ r, V1[b]? = some r := ⟨_, List.getElem?_eq_getElem (by omega)⟩
      obtain ⟨w2, o3, e3, h3, t3⟩ := word_set (T := .lst (ts.map .str)) (s := 0) h2 c1 hr2 (hs1 r2 (List.mem_of_getElem? hr2)) (ρ := [some (.ptr 0), some (rowsI rows), some (wD W), x3, x4, x5, some (.ptr 1), some (.int (a : Nat)), some (.int (s : Nat)), some (.int (t : Nat)), some (ptrs (J.length + 2) W.length), x11, some (.int (b : Nat)), x13, x14]) (e1 := .ix (.var 10) (.var 12)) (e2 := .int 0) (fun S => rfl) (fun S => by
        have := ptrs_get (n := J.length + 2) hb S
        simp [this]
        omega) (fun S => by simp)
      refine ⟨some (.int (b : Nat)), o3, _, _, ?_, h3, c1.set (r' := r2.set 0 w2) hr2, T1.set hr2 t3, by rw [List.length_set]; exact hV1⟩
      refine if_t (S' := o1 :: O.lst (ts.map .str) :: J1) (by simp [c]) ?_
      rw [rb_nx (ρ' := [some (.ptr 0), some (rowsI rows), some (wD W), x3, x4, x5, some (.ptr 1), some (.int (a : Nat)), some (.int (s : Nat)), some (.int (t : Nat)), some (ptrs (J.length + 2) W.length), x11, some (.int (b : Nat)), x13, x14]) (S' := o2 :: O.lst (ts.map .str) :: J1) (by simp [rowsI_len, e2]) rfl]
      rw [rb_nx e3 rfl, rb_nil]
    · exact ⟨x12, o1, J1, V1, if_f (S' := o1 :: O.lst (ts.map .str) :: J1) (by simp [c]) rfl, h1, c1, T1, hV1⟩
  obtain ⟨y12, o2, J2, V2, k1, k2, k3, k4, k5⟩ := key
  rw [rb_nx k1 rfl]
  have ct := cells_text (o := o2) (T := .lst (ts.map .str)) (J := J2) (j := J.length) (V := V2) (ρ := [some (.ptr 0), some (rowsI rows), some (wD W), x3, x4, x5, some (.ptr 1), some (.int (a : Nat)), some (.int (s : Nat)), some (.int (t : Nat)), some (ptrs (J.length + 2) W.length), x11, y12, x13, x14]) (e := .var 10) rfl (by simp) k3 k4 (fun S => by simp [k5])
  refine ⟨txt V2, o2, J2, some (ptrs (J.length + 2) W.length), y12, ?_, k2, k4.tx⟩
  have ca := ck_app (S := o2 :: O.lst (ts.map .str) :: J2) (k := 1) (ds := ts.map .str) rfl
  have ap := app_ptr (S := o2 :: O.lst (ts.map .str) :: J2) (k := 1) (ds := ts.map .str) (y := .str (txt V2)) rfl (by rw [List.length_map]; omega)
  rw [rb_cons, rs_expr, re_meth]
  simp only [re_var, var_s, var_0, bnd_pur, ca, if_true, ct, sm_app, ap, lft_some, ss_nx, rb_nil]
  simp
end Z


set_option Elab.async false
set_option linter.all false
set_option maxRecDepth 100000
set_option maxHeartbeats 4000000
namespace Z
open PySem PySem.Spec PyProof.Rows L2
def wsOf (rows : List (List Int)) : List (List Str) := rows.map fun r => r.map its
theorem txt_rows (rows : List (List Int)) : txt (wsOf rows) = txtM rows := by
  simp [txt, wsOf, txtM, List.map_map]
  rfl
theorem Good.tidy {rows : List (List Int)} {m : Nat} (g : Good rows m) : Tidy (wsOf rows) ∧ ∀ r ∈ wsOf rows, r.length = m := by
  refine ⟨⟨by rw [wsOf, List.length_map]; have := g.l8; omega, fun r hr => ?_⟩, fun r hr => ?_⟩
  · obtain ⟨q, hq, rfl⟩ := List.mem_map.mp hr
    obtain ⟨h1, h2⟩ := g.row q hq
    have := g.m8
    refine ⟨by rw [List.length_map]; omega, fun w hw => ?_⟩
    obtain ⟨v, hv, rfl⟩ := List.mem_map.mp hw
    exact tx_num (h2 v hv)
  · obtain ⟨q, hq, rfl⟩ := List.mem_map.mp hr
    rw [List.length_map]
    exact (g.row q hq).1
/-- a list of the store that is read out at the end -/
theorem frz_at {n k : Nat} {S : Store} {xs : List D} {f : Nat} (hk : S[k]? = some (.lst xs)) (hn : n ≤ k) (h : okDs n xs = true) : frzD n S (f + 1) (.ptr k) = some (.lst xs) := by
  have : Nat.blt k n = false := Bool.eq_false_iff.mpr fun h => absurd (Nat.le_of_ble_eq_true h) (by omega)
  simp only [frzD, this, hk, frzL, frzs_same f xs h]
  rfl
theorem ok_src {o : O} (h : Src o) (n : Nat) : okO n o = true := by
  obtain ⟨cells, p, q, r, rfl, _⟩ := h
  have : okDs n (cells.map D.int) = true := okDs_map fun x _ => by simp [okD]
  simp [src, okO, okDs, okD, this]
theorem ok_strs (n : Nat) (ts : List Str) : okDs n (ts.map D.str) = true := okDs_map fun x _ => by simp [okD]
section
variable {W : List (List Str)} {S : Store}
theorem sl_W (h : W.length ≤ 17) (lo hi : Option Int) : slD false (wD W) lo hi S = some (wD (cutA W lo hi), S) := sl_map _ W lo hi S (by omega)
theorem sl_w {r : List Str} (h : r.length ≤ 17) (lo hi : Option Int) : slD false (.lst (r.map .str)) lo hi S = some (.lst ((cutA r lo hi).map .str), S) := sl_map _ r lo hi S (by omega)
theorem add_W {A B : List (List Str)} (h : A.length + B.length ≤ 1000) : addD false (wD A) (wD B) S = some (wD (A ++ B), S) := add_map _ A B S (by omega)
theorem add_w {A B : List Str} (h : A.length + B.length ≤ 1000) : addD false (.lst (A.map .str)) (.lst (B.map .str)) S = some (.lst ((A ++ B).map .str), S) := add_map _ A B S (by omega)
theorem ix_W {a : Nat} {r : List Str} (h : W[a]? = some r) : ixD (wD W) (.int (a : Nat)) S = pur (.lst (r.map .str)) S := by
  refine ix_lst ?_
  rw [List.getElem?_map, h]
  rfl
end
theorem one_W (r : List Str) : D.lst [.lst (r.map .str)] = wD [r] := rfl
theorem cut_le (W : List (List Str)) (a : Nat) (ha : a < W.length) : (cutA W none (some (a : Int))).length = a ∧ (cutA W (some ((a : Int) + 1)) none).length + a + 1 = W.length := by
  have e : ((a : Int) + 1) = ((a + 1 : Nat) : Int) := by omega
  have h1 : ¬ ((a : Nat) : Int) < 0 := by omega
  have h2 : ¬ ((a + 1 : Nat) : Int) < 0 := by omega
  constructor
  · simp only [cutA, HT.sIx, h1, if_false, Int.toNat_natCast, List.length_take, List.length_drop]
    omega
  · rw [e]
    simp only [cutA, HT.sIx, h2, if_false, Int.toNat_natCast, List.length_take, List.length_drop]
    omega
theorem Tidy.mid {W : List (List Str)} (h : Tidy W) {a : Nat} (ha : a < W.length) {q : List Str} (hq : q.length ≤ 17 ∧ ∀ w ∈ q, Tx 8 w) : Tidy (cutA W none (some (a : Int)) ++ [q] ++ cutA W (some ((a : Int) + 1)) none) := by
  obtain ⟨h1, h2⟩ := cut_le W a ha
  have := h.l
  refine ⟨by simp only [List.length_append, List.length_cons, List.length_nil]; omega, fun r hr => ?_⟩
  rw [List.mem_append, List.mem_append, List.mem_singleton] at hr
  rcases hr with (hr | rfl) | hr
  · exact h.row r (cutA_mem hr)
  · exact hq
  · exact h.row r (cutA_mem hr)
end Z


set_option Elab.async false
set_option linter.all false
set_option maxRecDepth 100000
set_option maxHeartbeats 4000000
namespace Z
open PySem PySem.Spec PyProof.Rows L2
theorem app_told {ρ : Rho} {e : IE} {o : O} {ts : List Str} {J : Store} {z : Str} (h6 : ∀ S, varD 6 ρ S = pur (.ptr 1) S) (hl : ts.length ≤ 100) (he : runE ρ e (o :: .lst (ts.map .str) :: J) = pur (.str z) (o :: .lst (ts.map .str) :: J)) :
    runS ρ (.expr (.meth .append (.var 6) e)) (o :: .lst (ts.map .str) :: J) = pur (.nx ρ) (o :: .lst ((ts ++ [z]).map .str) :: J) := by
  have ca := ck_app (S := o :: .lst (ts.map .str) :: J) (k := 1) (ds := ts.map .str) rfl
  have ap := app_ptr (S := o :: .lst (ts.map .str) :: J) (k := 1) (ds := ts.map .str) (y := .str z) rfl (by rw [List.length_map]; omega)
  rw [rs_expr, re_meth]
  simp only [re_var, h6, bnd_pur, ca, if_true, he, sm_app, ap, lft_some]
  simp
theorem law_texts {o : O} (ho : Src o) {rows : List (List Int)} {m : Nat} (g : Good rows m) : ∃ ts o', fn__law_texts [.ptr 0, rowsI rows] [o] = pur (.lst (ts.map .str)) [o'] ∧ Src o' ∧ (∀ t ∈ ts, Tx 90000 t) ∧ ts.length ≤ 100 ∧ ∃ r, ts = txtM rows :: r := by
  obtain ⟨hW, hm⟩ := g.tidy
  have hlW : (wsOf rows).length = rows.length := by simp [wsOf]
  have hw : runE [some (.ptr 0), some (rowsI rows), none, none, none, none, none, none, none, none, none, none, none, none, none] (.lc false [("row", 4)] (.nm 4) (.seq (.var 1)) .no (.lc false [("x", 3)] (.nm 3) (.seq (.var 4)) .no (.bi .str (.cons (.var 3) .nil)))) [o] = pur (wD (wsOf rows)) [o] := by
    have := lc_e (own := [("row", 4)]) (t := .nm 4) (it := .seq (.var 1)) (cs := .no) (elt := .lc false [("x", 3)] (.nm 3) (.seq (.var 4)) .no (.bi .str (.cons (.var 3) .nil))) (ρ := [some (.ptr 0), some (rowsI rows), none, none, none, none, none, none, none, none, none, none, none, none, none]) (S := [o]) rows (fun r => .lst (r.map .int)) (fun r => .lst (r.map fun v => .str (its v))) (w := ⟨rows.map fun r => .lst (r.map .int), fun _ => true⟩) (by simp [rowsI]) rfl rfl (by have := g.l8; omega) (fun r hr => ⟨_, rfl, rfl, by
      obtain ⟨a, b⟩ := g.row r hr
      have := g.m8
      exact lc_e r .int (fun v => .str (its v)) (w := ⟨r.map .int, fun _ => true⟩) (by simp [wipeR]) rfl rfl (by omega) fun v hv => ⟨_, rfl, rfl, by simp [wipeR, str_int (log_small (b v hv))]⟩⟩)
    rw [this]
    simp [wD, wsOf, List.map_map]
  have hlr := g.l8
  have hne : rows.length ≠ 0 := fun z => g.ne (List.length_eq_zero_iff.mp z)
  have htx : txt (wsOf rows) = txtM rows := txt_rows rows
  rw [← htx]
  generalize hWW : wsOf rows = W at hW hm hlW hw htx ⊢
  have tw := hW.tx
  have n1 : Tx 1 ("\n" : Str) := tx_of "\n" 1 (by decide +kernel)
  have s1 : Tx 1 (" " : Str) := tx_of " " 1 (by decide +kernel)
  obtain ⟨z1, o1, e1, h1, t1⟩ := law_bent ho [] tw (by decide)
  obtain ⟨z2, o2, e2, h2, t2⟩ := law_bent h1 [] tw (by decide)
  have a1 := add_tx (m := false) (S := [o2]) tw n1 (by decide)
  have a2 := add_tx (m := false) (S := [o2]) s1 tw (by decide)
  have a3 := add_tx (m := false) (S := [o2]) tw s1 (by decide)
  rw [fn__law_texts, retF_fin]
  have es : startR nm__law_texts [.ptr 0, rowsI rows] = [some (.ptr 0), some (rowsI rows), none, none, none, none, none, none, none, none, none, none, none, none, none] := rfl
  simp only [ir__law_texts, es]
  generalize hts0 : [txt W, z1, z2, txt W ++ "\n", " " ++ txt W, txt W ++ " "] = ts0
  have b0 : (∀ t ∈ ts0, Tx 90000 t) ∧ ts0.length = 6 ∧ ∃ r, ts0 = txt W :: r := by
    subst hts0
    refine ⟨?_, rfl, _, rfl⟩
    simp only [List.forall_mem_cons]
    exact ⟨tw.mono (by decide), t1.mono (by decide), t2.mono (by decide), (tw.append n1).mono (by decide), (s1.append tw).mono (by decide), (tw.append s1).mono (by decide), by simp⟩
  obtain ⟨a, o3, e3, h3, a0, a1'⟩ := draw_spec h2 (L := [.lst (ts0.map .str)]) (m := rows.length) (by omega) (by omega)
  have hm0 := g.m0
  have hm8 := g.m8
  obtain ⟨s, o4, e4, h4, s0, s1'⟩ := draw_spec h3 (L := [.lst (ts0.map .str)]) (m := m) (by omega) (by omega)
  obtain ⟨a, rfl⟩ := Int.eq_ofNat_of_zero_le a0
  obtain ⟨s, rfl⟩ := Int.eq_ofNat_of_zero_le s0
  have ha : a < W.length := by omega
  have hs : ∀ r ∈ W, s < r.length := fun r hr => by rw [hm r hr]; omega
  obtain ⟨r0, hr0⟩ : ∃ r, rows[0]? = some r := ⟨_, List.getElem?_eq_getElem (by omega)⟩
  have hlr0 : r0.length = m := (g.row r0 (List.mem_of_getElem? hr0)).1
  have hix0 : ∀ S, ixD (rowsI rows) (.int 0) S = pur (.lst (r0.map .int)) S := fun S => ix_lst (k := 0) (by rw [List.getElem?_map, hr0]; rfl)
  have rn := rng_small (ρ := [some (.ptr 0), some (rowsI rows), some (wD W), none, none, some (.str (txt W)), some (.ptr 1), some (.int (a : Nat)), some (.int (s : Nat)), none, none, none, none, none, none]) (e := .int 3) (v := 3) (S := [o4, .lst (ts0.map .str)]) rfl (by decide) (by decide)
  obtain ⟨ρ', S', k1, k2⟩ := for_inv (stay := fun _ => true) (tg := tgM (.nm 9)) (body := fun ρ' S' => runB txB ρ' S') (fun i : Nat => .int (i : Nat)) (fun k ρ S => ∃ ts o' J x9 x10 x12, ρ = [some (.ptr 0), some (rowsI rows), some (wD W), none, none, some (.str (txt W)), some (.ptr 1), some (.int (a : Nat)), some (.int (s : Nat)), x9, x10, none, x12, none, none] ∧ S = o' :: .lst (ts.map .str) :: J ∧ Src o' ∧ (∀ t ∈ ts, Tx 90000 t) ∧ ts.length = 6 + k ∧ ∃ r, ts = txt W :: r) 3
    (List.range' 0 3) 0 [some (.ptr 0), some (rowsI rows), some (wD W), none, none, some (.str (txt W)), some (.ptr 1), some (.int (a : Nat)), some (.int (s : Nat)), none, none, none, none, none, none] [o4, .lst (ts0.map .str)] (by decide)
    ⟨ts0, o4, [], none, none, none, rfl, rfl, h4, b0.1, b0.2.1, b0.2.2⟩ (fun _ _ _ _ => rfl) (by
      rintro i hi k ρ S hk ⟨ts, o', J, x9, x10, x12, rfl, rfl, s', tz, tl, r, tr⟩
      obtain ⟨z, o5, J', y10, y12, c1, c2, c3⟩ := txt_one (J := J) s' (ts := ts) hW (t := i) ha hs hlW.symm (by omega) none none (some (.str (txt W))) x10 none x12 none none
      refine ⟨_, _, _, rfl, c1, ts ++ [z], o5, J', _, _, _, rfl, rfl, c2, ?_, by simp; omega, r ++ [z], by rw [tr]; rfl⟩
      intro t ht
      rcases List.mem_append.mp ht with ht | ht
      · exact tz t ht
      · rw [List.mem_singleton] at ht
        subst ht
        exact c3.mono (by decide))
  obtain ⟨ts, o5, J, x9, x10, x12, rfl, rfl, h5, tz, tl, r, tr⟩ := k2
  have tl' : ts.length = 9 := by rw [tl]; rfl
  obtain ⟨ra, hra⟩ : ∃ r, W[a]? = some r := ⟨_, List.getElem?_eq_getElem ha⟩
  have hra' := hW.row ra (List.mem_of_getElem? hra)
  have hra8 : ra.length = m := hm ra (List.mem_of_getElem? hra)
  obtain ⟨cl1, cl2⟩ := cut_le W a ha
  have hl17 := hW.l
  have sW := fun lo hi S => sl_W (S := S) hl17 lo hi
  have iW := fun S => ix_W (S := S) hra
  have less_ok : (cutA ra none (some (-1))).length ≤ 17 ∧ ∀ w ∈ cutA ra none (some (-1)), Tx 8 w := ⟨Nat.le_trans (cutA_len _ _ _) hra'.1, fun w hw => hra'.2 w (cutA_mem hw)⟩
  have more_ok : (ra ++ [("7" : Str)]).length ≤ 17 ∧ ∀ w ∈ ra ++ [("7" : Str)], Tx 8 w := by
    refine ⟨by simp; omega, fun w hw => ?_⟩
    rcases List.mem_append.mp hw with hw | hw
    · exact hra'.2 w hw
    · rw [List.mem_singleton] at hw
      subst hw
      exact tx_of "7" 8 (by decide +kernel)
  have T1 := hW.mid ha less_ok
  have T2 := hW.mid ha more_ok
  have T3 : Tidy (W ++ W) := ⟨by rw [List.length_append]; omega, fun r hr => (List.mem_append.mp hr).elim (hW.row r) (hW.row r)⟩
  have T4 : Tidy ((W.map fun r => ((.lst (r.map .str) : D), r ++ r)).map (·.2)) := by
    refine ⟨by simp; omega, fun r hr => ?_⟩
    rw [List.map_map] at hr
    obtain ⟨q, hq, rfl⟩ := List.mem_map.mp hr
    refine ⟨?_, fun w hw => ?_⟩
    · have := hm q hq
      simp
      omega
    · exact (hW.row q hq).2 w ((List.mem_append.mp hw).elim id id)
  generalize hA : cutA W none (some (a : Int)) = A at cl1 T1 T2
  generalize hB : cutA W (some ((a : Int) + 1)) none = B at cl2 T1 T2
  have one1 := fun S => add_W (S := S) (A := A) (B := [cutA ra none (some (-1))]) (by simp; omega)
  have one2 := fun S => add_W (S := S) (A := A ++ [cutA ra none (some (-1))]) (B := B) (by simp; omega)
  have one3 := fun S => add_W (S := S) (A := A) (B := [ra ++ [("7" : Str)]]) (by simp; omega)
  have one4 := fun S => add_W (S := S) (A := A ++ [ra ++ [("7" : Str)]]) (B := B) (by simp; omega)
  have one5 := fun S => add_W (S := S) (A := W) (B := W) (by omega)
  have seven := fun S => add_w (S := S) (A := ra) (B := [("7" : Str)]) (by simp; omega)
  have cutr := fun S => sl_w (S := S) (r := ra) (by omega) none (some (-1))
  refine ⟨ts ++ [txt (A ++ [cutA ra none (some (-1))] ++ B)] ++ [txt (A ++ [ra ++ [("7" : Str)]] ++ B)] ++ [txt (W ++ W)] ++ [txt ((W.map fun r => ((.lst (r.map .str) : D), r ++ r)).map (·.2))], o5, ?_, h5, ?_, by simp; omega, _, by rw [tr]; rfl⟩
  rotate_left
  · intro t ht
    simp only [List.mem_append, List.mem_singleton] at ht
    rcases ht with (((ht | rfl) | rfl) | rfl) | rfl
    · exact tz t ht
    · exact T1.tx.mono (by decide)
    · exact T2.tx.mono (by decide)
    · exact T3.tx.mono (by decide)
    · exact T4.tx.mono (by decide)
  refine st_nx (ρ' := [some (.ptr 0), some (rowsI rows), some (wD W), none, none, none, none, none, none, none, none, none, none, none, none]) (S' := [o]) (by rw [rs_asg, hw]; simp) ?_
  have j0 := join_wD (ρ := [some (.ptr 0), some (rowsI rows), some (wD W), none, none, none, none, none, none, none, none, none, none, none, none]) (S := [o]) (e := .var 2) (own := [("row", 4)]) rfl (by simp) (by simp) hW
  refine st_nx (ρ' := [some (.ptr 0), some (rowsI rows), some (wD W), none, none, some (.str (txt W)), none, none, none, none, none, none, none, none, none]) (S' := [o]) (by rw [rs_asg, j0]; simp) ?_
  refine st_nx (ρ' := [some (.ptr 0), some (rowsI rows), some (wD W), none, none, some (.str (txt W)), some (.ptr 1), none, none, none, none, none, none, none, none]) (S' := [o2, .lst (ts0.map .str)]) (by
    subst hts0
    simp [-add_str, e1, e2, a1, a2, a3, ptrD, fits]) ?_
  refine st_nx (ρ' := [some (.ptr 0), some (rowsI rows), some (wD W), none, none, some (.str (txt W)), some (.ptr 1), some (.int (a : Nat)), none, none, none, none, none, none, none]) (S' := [o3, .lst (ts0.map .str)]) (by simp [rowsI_len, e3]) ?_
  refine st_nx (ρ' := [some (.ptr 0), some (rowsI rows), some (wD W), none, none, some (.str (txt W)), some (.ptr 1), some (.int (a : Nat)), some (.int (s : Nat)), none, none, none, none, none, none]) (S' := [o4, .lst (ts0.map .str)]) (by simp [hix0, hlr0, e4]) ?_
  refine st_nx (ρ' := [some (.ptr 0), some (rowsI rows), some (wD W), none, none, some (.str (txt W)), some (.ptr 1), some (.int (a : Nat)), some (.int (s : Nat)), x9, x10, none, x12, none, none]) (S' := o5 :: .lst (ts.map .str) :: J) (loop_of (body := txB) rn k1) ?_
  have w1 : D.lst [D.lst ((cutA ra none (some (-1))).map .str)] = wD [cutA ra none (some (-1))] := rfl
  have w2 : D.lst [D.lst ((ra ++ [("7" : Str)]).map .str)] = wD [ra ++ [("7" : Str)]] := rfl
  have w3 : D.lst [D.str "7"] = D.lst ([("7" : Str)].map .str) := rfl
  refine st_nx (ρ' := [some (.ptr 0), some (rowsI rows), some (wD W), none, none, some (.str (txt W)), some (.ptr 1), some (.int (a : Nat)), some (.int (s : Nat)), x9, x10, none, x12, some (wD (A ++ [cutA ra none (some (-1))] ++ B)), none]) (S' := o5 :: .lst (ts.map .str) :: J) (by
    simp only [rs_asg, re_bin, re_sl, re_var, var_s, var_0, bnd_pur, ro_no, ro_yes, partM_int, sW, lft_some, re_lstF, res_cons, res_nil, re_ix, iW, re_neg, re_int, neg_int, cutr, lst_1, bin_add, add_int, w1, hA, hB, one1, one2, se_nm]
    simp) ?_
  have j1 := join_wD (ρ := [some (.ptr 0), some (rowsI rows), some (wD W), none, none, some (.str (txt W)), some (.ptr 1), some (.int (a : Nat)), some (.int (s : Nat)), x9, x10, none, x12, some (wD (A ++ [cutA ra none (some (-1))] ++ B)), none]) (S := o5 :: .lst (ts.map .str) :: J) (e := .var 13) (own := [("row", 4)]) rfl (by simp) (by simp) T1
  refine st_nx (app_told (fun _ => rfl) (by omega) j1) ?_
  refine st_nx (ρ' := [some (.ptr 0), some (rowsI rows), some (wD W), none, none, some (.str (txt W)), some (.ptr 1), some (.int (a : Nat)), some (.int (s : Nat)), x9, x10, none, x12, some (wD (A ++ [cutA ra none (some (-1))] ++ B)), some (wD (A ++ [ra ++ [("7" : Str)]] ++ B))]) (S' := o5 :: .lst ((ts ++ [txt (A ++ [cutA ra none (some (-1))] ++ B)]).map .str) :: J) (by
    simp only [rs_asg, re_bin, re_sl, re_var, var_s, var_0, bnd_pur, ro_no, ro_yes, partM_int, sW, lft_some, re_lstF, res_cons, res_nil, re_ix, iW, re_neg, re_int, re_str, neg_int, lst_1, bin_add, add_int, w3, seven, w2, hA, hB, one3, one4, se_nm]
    simp) ?_
  have j2 := join_wD (ρ := [some (.ptr 0), some (rowsI rows), some (wD W), none, none, some (.str (txt W)), some (.ptr 1), some (.int (a : Nat)), some (.int (s : Nat)), x9, x10, none, x12, some (wD (A ++ [cutA ra none (some (-1))] ++ B)), some (wD (A ++ [ra ++ [("7" : Str)]] ++ B))]) (S := o5 :: .lst ((ts ++ [txt (A ++ [cutA ra none (some (-1))] ++ B)]).map .str) :: J) (e := .var 14) (own := [("row", 4)]) rfl (by simp) (by simp) T2
  refine st_nx (app_told (fun _ => rfl) (by simp; omega) j2) ?_
  have j3 := join_wD (ρ := [some (.ptr 0), some (rowsI rows), some (wD W), none, none, some (.str (txt W)), some (.ptr 1), some (.int (a : Nat)), some (.int (s : Nat)), x9, x10, none, x12, some (wD (A ++ [cutA ra none (some (-1))] ++ B)), some (wD (A ++ [ra ++ [("7" : Str)]] ++ B))]) (S := o5 :: .lst ((ts ++ [txt (A ++ [cutA ra none (some (-1))] ++ B)] ++ [txt (A ++ [ra ++ [("7" : Str)]] ++ B)]).map .str) :: J) (e := .bin false .Add (.var 2) (.var 2)) (own := [("row", 4)]) rfl (by simp) (by simp [-add_lst, one5]) T3
  refine st_nx (app_told (fun _ => rfl) (by simp; omega) j3) ?_
  have hf : ((W.map fun r => ((.lst (r.map .str) : D), r ++ r)).map (·.1)) = W.map fun r => .lst (r.map .str) := by rw [List.map_map]; rfl
  have j4 := join_rows (ρ := [some (.ptr 0), some (rowsI rows), some (wD W), none, none, some (.str (txt W)), some (.ptr 1), some (.int (a : Nat)), some (.int (s : Nat)), x9, x10, none, x12, some (wD (A ++ [cutA ra none (some (-1))] ++ B)), some (wD (A ++ [ra ++ [("7" : Str)]] ++ B))]) (S := o5 :: .lst ((ts ++ [txt (A ++ [cutA ra none (some (-1))] ++ B)] ++ [txt (A ++ [ra ++ [("7" : Str)]] ++ B)] ++ [txt (W ++ W)]).map .str) :: J) (e := .var 2) (e2 := .bin false .Add (.var 4) (.var 4)) (own := [("row", 4)]) (W.map fun r => ((.lst (r.map .str) : D), r ++ r)) rfl (by simp) (by rw [hf]; simp [wD]) (by
    intro p hp
    obtain ⟨q, hq, rfl⟩ := List.mem_map.mp hp
    have hq' := (hW.row q hq).1
    have := fun S => add_w (S := S) (A := q) (B := q) (by omega)
    exact ⟨.lst ((q ++ q).map .str), by simp [-add_lst, -List.map_append, this], rfl⟩) T4
  refine st_nx (app_told (fun _ => rfl) (by simp; omega) j4) ?_
  refine st_rt (d := .ptr 1) (S' := o5 :: .lst ((ts ++ [txt (A ++ [cutA ra none (some (-1))] ++ B)] ++ [txt (A ++ [ra ++ [("7" : Str)]] ++ B)] ++ [txt (W ++ W)] ++ [txt ((W.map fun r => ((.lst (r.map .str) : D), r ++ r)).map (·.2))]).map .str) :: J) (by simp) ?_
  refine (fin_cut (n := 1) (S := o5 :: _ :: J) ?_ (frz_at (k := 1) rfl (Nat.le_refl 1) (ok_strs 1 _)) (by simp)).trans ?_
  · simp [ok_src h5]
  · simp
end Z


set_option Elab.async false
set_option linter.all false
set_option maxRecDepth 100000
set_option maxHeartbeats 4000000
namespace Z
open PySem PySem.Spec PyProof.Rows L2
/-! ## the law about matrices -/
theorem lc_inv {own : List (Str × Nat)} {t : Tg} {it : II} {cs : IO} {elt : IE} {ρ : Rho} {S S1 : Store} {w : Wk} (I : Store → Prop) (P : D → Prop) (hit : runI ρ it S = pur w S1) (hf : w.items.length ≤ 16777216) (hs : ∀ S, I S → w.stay S = true)
    (h : ∀ d ∈ w.items, ∀ S, I S → ∃ ρ', tgM t d S (wipeR ρ (own.map (·.2))) = some ρ' ∧ runC ρ' cs S = pur true S ∧ ∃ v S', runE ρ' elt S = pur v S' ∧ I S' ∧ P v) (hI : I S1) :
    ∃ vs S', runE ρ (.lc false own t it cs elt) S = pur (.lst vs) S' ∧ vs.length = w.items.length ∧ (∀ v ∈ vs, P v) ∧ I S' := by
  rw [re_lc, hit, bnd_pur]
  exact lcM_inv I P (fits_le hf) hs h hI
theorem all_ex {α β : Type} {f : α → β} {Q : α → Prop} : ∀ {vs : List β}, (∀ v ∈ vs, ∃ x, v = f x ∧ Q x) → ∃ xs : List α, vs = xs.map f ∧ ∀ x ∈ xs, Q x
  | [], _ => ⟨[], rfl, by simp⟩
  | v :: r, h => by
    obtain ⟨x, rfl, q⟩ := h v List.mem_cons_self
    obtain ⟨xs, rfl, k⟩ := all_ex fun w hw => h w (List.mem_cons_of_mem _ hw)
    refine ⟨x :: xs, rfl, fun y hy => ?_⟩
    rcases List.mem_cons.mp hy with rfl | hy
    · exact q
    · exact k y hy
def selfS : Nat → D → Bool
  | 0, _ => false
  | _ + 1, .non => true
  | _ + 1, .bl _ => true
  | _ + 1, .int _ => true
  | _ + 1, .str z => decide (z.length ≤ 100) && (TL.tl z).all fun c => decide (c < 1114112)
  | k + 1, .tup ds => decide (ds.length ≤ 1000) && ds.all (selfS k)
  | _, _ => false
theorem selfS_sm {S : Store} : ∀ {k : Nat} {d : D}, selfS k d = true → Sm S k d d
  | 0, _, h => by simp [selfS] at h
  | _ + 1, .non, _ => .non _
  | _ + 1, .bl b, _ => .bl _ b
  | _ + 1, .int b, _ => .int _ b
  | _ + 1, .str z, h => by
    simp only [selfS, Bool.and_eq_true, decide_eq_true_eq, List.all_eq_true] at h
    exact .str _ z ⟨by omega, h.2⟩
  | k + 1, .tup ds, h => by
    simp only [selfS, Bool.and_eq_true, decide_eq_true_eq, List.all_eq_true] at h
    refine .sq k ds ds _ rfl rfl rfl h.1 fun i t e h1 h2 => ?_
    rw [h1] at h2
    cases h2
    exact selfS_sm (h.2 t (List.mem_of_getElem? h1))
  | _ + 1, .lst _, h => by simp [selfS] at h
  | _ + 1, .fn _, h => by simp [selfS] at h
  | _ + 1, .ptr _, h => by simp [selfS] at h
  | _ + 1, .scr _, h => by simp [selfS] at h
theorem told_err {c : Str} {d : D} {S : Store} (h : excL.contains c = true) : toldM (some (.err c d, S)) = pur (.tup [.str "raised", .lst [.tup [.str c, d]]]) S := by
  simp only [toldM, h, if_true]
theorem told_ex {m : M D} {c : Str} {d : D} {S : Store} (h : m = some (.err c d, S)) (hc : excL.contains c = true) : toldM m = pur (.tup [.str "raised", .lst [.tup [.str c, d]]]) S := by
  rw [h, told_err hc]
def isS : D → Bool
  | .str _ => true
  | _ => false
theorem read_matrix_no {d : D} (hp : pl d = true) (hs : isS d = false) (S : Store) : fn_read_matrix [d] S = some (.err "InvalidText" (.int 0), S) := by
  rw [fn_read_matrix, retF_fin]
  have e0 : startR nm_read_matrix [d] = [some d, none, none, none] := rfl
  simp only [ir_read_matrix, e0]
  have it : isiD ["str"] d S = some (.bl false, S) := by cases d <;> simp [isS, pl] at hs hp <;> simp [isiD, tyN, subT]
  exact st_err (c := "InvalidText") (d := .int 0) (S' := S) (if_t (S' := S) (by simp [it]) (by simp)) (by simp)
theorem read_vector_no {d : D} (hp : pl d = true) (hs : isS d = false) (S : Store) : fn_read_vector [d] S = some (.err "InvalidText" (.int 0), S) := by
  rw [fn_read_vector, retF_fin]
  have e0 : startR nm_read_vector [d] = [some d, none, none, none, none, none] := rfl
  simp only [ir_read_vector, e0]
  have it : isiD ["str"] d S = some (.bl false, S) := by cases d <;> simp [isS, pl] at hs hp <;> simp [isiD, tyN, subT]
  exact st_err (c := "InvalidText") (d := .int 0) (S' := S) (if_t (S' := S) (by simp [it]) (by simp)) (by simp)
def noneM : List D := [.tup [.tup [.int 1, .int 0], .tup [.int 0]], .tup [], .tup [.tup [.int 1000001]], .tup [.tup [.bl false]], .int 3, .non, .str "1", .tup [.tup (List.replicate 9 (.int 1))]]
theorem noneM_ok : ∀ d ∈ noneM, pl2 d = true ∧ matB d = false ∧ isL d = false ∧ pl d = true ∧ selfS 9 d = true := by
  have h : noneM.all (fun d => pl2 d && (!matB d && (!isL d && (pl d && selfS 9 d)))) = true := by decide +kernel
  intro d hd
  have := List.all_eq_true.mp h d hd
  simpa [Bool.and_eq_true] using this
theorem law_matrices {o : O} (ho : Src o) : ∃ o', fn__law_matrices [.ptr 0] [o] = pur (.bl true) [o'] ∧ Src o' := by
  obtain ⟨a, o1, e1, h1, a0, a1⟩ := draw_spec ho (L := []) (m := 8) (by decide) (by decide)
  obtain ⟨b, o2, e2, h2, b0, b1⟩ := draw_spec h1 (L := []) (m := 8) (by decide) (by decide)
  rw [fn__law_matrices, retF_fin]
  have es : startR nm__law_matrices [.ptr 0] = [some (.ptr 0), none, none, none, none, none, none, none, none, none, none] := rfl
  simp only [ir__law_matrices, es]
  obtain ⟨n, hn⟩ := Int.eq_ofNat_of_zero_le (show 0 ≤ 1 + a by omega)
  obtain ⟨m, hm⟩ := Int.eq_ofNat_of_zero_le (show 0 ≤ 1 + b by omega)
  obtain ⟨vs, S3, r1, r2, r3, o3, h3, rfl⟩ := lc_inv (own := [("i", 5)]) (t := .nm 5) (it := .rng1 (.var 1)) (cs := .no) (elt := .lc false [("j", 4)] (.nm 4) (.rng1 (.var 2)) .no (.call "_law_one" 1 fn__law_one (.cons (.var 0) .nil))) (ρ := [some (.ptr 0), some (.int (n : Nat)), some (.int (m : Nat)), none, none, none, none, none, none, none, none]) (S := [o2]) (S1 := [o2])
    (fun S => ∃ o', Src o' ∧ S = [o']) (fun v => ∃ l : List Int, v = .lst (l.map .int) ∧ l.length = m ∧ ∀ v ∈ l, -1000000 ≤ v ∧ v ≤ 1000000) (rng_small (v := (n : Nat)) rfl (by omega) (by omega)) (by simp; omega) (fun _ _ => rfl) (by
      rintro d hd S ⟨o', s', rfl⟩
      refine ⟨_, rfl, rfl, ?_⟩
      obtain ⟨us, S4, q1, q2, q3, o4, h4, rfl⟩ := lc_inv (own := [("j", 4)]) (t := .nm 4) (it := .rng1 (.var 2)) (cs := .no) (elt := .call "_law_one" 1 fn__law_one (.cons (.var 0) .nil)) (ρ := [some (.ptr 0), some (.int (n : Nat)), some (.int (m : Nat)), none, none, some d, none, none, none, none, none]) (S := [o']) (S1 := [o'])
        (fun S => ∃ o', Src o' ∧ S = [o']) (fun v => ∃ i : Int, v = .int i ∧ -1000000 ≤ i ∧ i ≤ 1000000) (rng_small (v := (m : Nat)) rfl (by omega) (by omega)) (by simp; omega) (fun _ _ => rfl) (by
          rintro d' hd' S ⟨o', s', rfl⟩
          obtain ⟨v, o5, f1, f2, f3⟩ := law_one s' []
          exact ⟨_, rfl, rfl, .int v, [o5], by simp [wipeR, f1], ⟨o5, f2, rfl⟩, v, rfl, f3⟩) ⟨o', s', rfl⟩
      obtain ⟨l, rfl, hl⟩ := all_ex (f := D.int) (Q := fun i => -1000000 ≤ i ∧ i ≤ 1000000) q3
      exact ⟨_, _, q1, ⟨o4, h4, rfl⟩, l, rfl, by simpa using q2, hl⟩) ⟨o2, h2, rfl⟩
  obtain ⟨rows, rfl, hr⟩ := all_ex (f := fun l : List Int => D.lst (l.map .int)) (Q := fun l => l.length = m ∧ ∀ v ∈ l, -1000000 ≤ v ∧ v ≤ 1000000) r3
  have hlen : rows.length = n := by simpa using r2
  have g : Good rows m := ⟨fun z => by subst z; simp at hlen; omega, by omega, by omega, by omega, hr⟩
  obtain ⟨d, o4, e4, h4, hd⟩ := law_handed h3 [] g.l8 (fun r hr' => by have := (hr r hr').1; omega)
  obtain ⟨ts, o5, e5, h5, tz, tl, tr, ht⟩ := law_texts h4 g
  obtain ⟨p1, p2, p3⟩ := good_mat hd g
  have wm := (write_matrix p1 [o5]).2 rows p2 p3 (fun l hl => ⟨fun z => by have := (hr l hl).1; rw [z] at this; simp at this; omega, by have := (hr l hl).1; omega, (hr l hl).2⟩) g.l8
  have tz0 : Tx 90000 (txtM rows) := tz _ (by rw [ht]; exact List.mem_cons_self)
  have gv := gives (S := [o5]) (.str 8 (txtM rows) (tz0.mono (by decide)))
  have i0 : ∀ S, ixD (.lst (ts.map .str)) (.int 0) S = pur (.str (txtM rows)) S := fun S => ix_lst (k := 0) (by rw [ht]; rfl)
  have cp := law_copy hd g.l8 (fun r hr' => by have := (hr r hr').1; omega) [o5]
  obtain ⟨ρ', S', k1, k2⟩ := for_inv (stay := fun _ => true) (tg := tgM (.nm 8)) (body := fun ρ' S' => runB (.cons (.ife (.not (.call "_law_fits" 2 fn__law_fits (.cons (.told (.call "read_matrix" 1 fn_read_matrix (.cons (.var 8) .nil))) (.cons (.call "_law_matrix_due" 1 fn__law_matrix_due (.cons (.var 8) .nil)) .nil)))) (.cons (.ret (.bl false))
  .nil) .nil)
  .nil) ρ' S') D.str (fun k ρ S => ∃ x8, ρ = [some (.ptr 0), some (.int (n : Nat)), some (.int (m : Nat)), some (rowsI rows), none, none, some d, some (.lst (ts.map .str)), x8, none, none] ∧ S = [o5]) ts.length ts 0 [some (.ptr 0), some (.int (n : Nat)), some (.int (m : Nat)), some (rowsI rows), none, none, some d, some (.lst (ts.map .str)), none, none, none] [o5] (by omega) ⟨none, rfl, rfl⟩ (fun _ _ _ _ => rfl) (by
    rintro z hz k ρ S hk ⟨x8, rfl, rfl⟩
    obtain ⟨t, u, f1, f2, f3⟩ := fit_matrix (S := [o5]) (tz z hz) (by decide) (by simp [OkS, ok_src h5])
    refine ⟨_, _, [o5], rfl, ?_, some (.str z), rfl, rfl⟩
    simp [f1, f2, f3])
  obtain ⟨x8, rfl, rfl⟩ := k2
  obtain ⟨q, o6, e6, h6, q0, q1⟩ := draw_spec h5 (L := []) (m := 8) (by decide) (by decide)
  obtain ⟨nn, hnn, i8⟩ := pick_tup (l := noneM) q0 (by simpa [noneM] using q1)
  obtain ⟨n1, n2, n3, n4, n5⟩ := noneM_ok nn hnn
  have wn := told_ex ((write_matrix n1 [o6]).1 n2) (by decide +kernel)
  have rn := raises (S := [o6]) (c := "InvalidMatrix") (tx_lit "InvalidMatrix" (by decide +kernel)) n4 n3 (selfS_sm n5)
  obtain ⟨w, o7, e7, h7, w0, w1⟩ := draw_spec h6 (L := []) (m := 5) (by decide) (by decide)
  obtain ⟨nx, hnx, i5⟩ := pick_tup (l := [.int 5, .non, .bl true, .tup [.str "1 2"], rowsTI rows]) w0 (by simpa using w1)
  have hx : pl nx = true ∧ isS nx = false := by
    simp only [List.mem_cons, List.not_mem_nil, or_false] at hnx
    rcases hnx with rfl | rfl | rfl | rfl | rfl <;> exact ⟨rfl, rfl⟩
  have wx := told_ex (read_matrix_no hx.1 hx.2 [o7]) (by decide +kernel)
  have rx := raises (S := [o7]) (c := "InvalidText") (t := .int 0) (d := .int 0) (tx_lit "InvalidText" (by decide +kernel)) rfl rfl (.int 8 0)
  have ct := law_tuple g.l8 [o6]
  refine ⟨o7, ?_, h7⟩
  refine st_nx (ρ' := [some (.ptr 0), some (.int (n : Nat)), none, none, none, none, none, none, none, none, none]) (S' := [o1]) (by simp [e1, hn]) ?_
  refine st_nx (ρ' := [some (.ptr 0), some (.int (n : Nat)), some (.int (m : Nat)), none, none, none, none, none, none, none, none]) (S' := [o2]) (by simp [e2, hm]) ?_
  refine st_nx (ρ' := [some (.ptr 0), some (.int (n : Nat)), some (.int (m : Nat)), some (rowsI rows), none, none, none, none, none, none, none]) (S' := [o3]) (by rw [rs_asg, r1, bnd_pur]; rfl) ?_
  refine st_nx (ρ' := [some (.ptr 0), some (.int (n : Nat)), some (.int (m : Nat)), some (rowsI rows), none, none, some d, none, none, none, none]) (S' := [o4]) (by simp [e4]) ?_
  refine st_nx (ρ' := [some (.ptr 0), some (.int (n : Nat)), some (.int (m : Nat)), some (rowsI rows), none, none, some d, some (.lst (ts.map .str)), none, none, none]) (S' := [o5]) (by simp [e5]) ?_
  refine st_nx (ρ' := [some (.ptr 0), some (.int (n : Nat)), some (.int (m : Nat)), some (rowsI rows), none, none, some d, some (.lst (ts.map .str)), none, none, none]) (S' := [o5]) (if_f (S' := [o5]) (by simp [wm, i0, gv, cp, eq_rows]) rfl) ?_
  refine st_nx (ρ' := [some (.ptr 0), some (.int (n : Nat)), some (.int (m : Nat)), some (rowsI rows), none, none, some d, some (.lst (ts.map .str)), x8, none, none]) (S' := [o5]) (loop_of (w := ⟨ts.map .str, fun _ => true⟩) (S1 := [o5]) (by simp) k1) ?_
  refine st_nx (ρ' := [some (.ptr 0), some (.int (n : Nat)), some (.int (m : Nat)), some (rowsI rows), none, none, some d, some (.lst (ts.map .str)), x8, some nn, none]) (S' := [o6]) ?_ ?_
  · have hN : runE [some (.ptr 0), some (.int (n : Nat)), some (.int (m : Nat)), some (rowsI rows), none, none, some d, some (.lst (ts.map .str)), x8, none, none] (.tup (.cons (.tup (.cons (.tup (.cons (.int 1) (.cons (.int 0) .nil))) (.cons (.tup (.cons (.int 0) .nil)) .nil))) (.cons (.tup .nil) (.cons (.tup (.cons (.tup (.cons (.int 1000001) .nil)) .nil)) (.cons (.tup (.cons (.tup (.cons (.bl false) .nil)) .nil)) (.cons (.int 3) (.cons .non (.cons (.str "1") (.cons (.tup (.cons (.bin false .Mult (.tup (.cons (.int 1) .nil)) (.int 9)) .nil)) .nil))))))))) [o5] = pur (.tup noneM) [o5] := by
      simp [mulD, fits, noneM]
    rw [rs_asg, re_ix, hN, bnd_pur]
    simp [e6, i8]
  refine st_nx (ρ' := [some (.ptr 0), some (.int (n : Nat)), some (.int (m : Nat)), some (rowsI rows), none, none, some d, some (.lst (ts.map .str)), x8, some nn, none]) (S' := [o6]) (if_f (S' := [o6]) (by simp [wn, rn]) rfl) ?_
  refine st_nx (ρ' := [some (.ptr 0), some (.int (n : Nat)), some (.int (m : Nat)), some (rowsI rows), none, none, some d, some (.lst (ts.map .str)), x8, some nn, some nx]) (S' := [o7]) (by simp [ct, e7, i5, fits]) ?_
  exact st_rt (d := .bl true) (S' := [o7]) (by simp [wx, rx]) (fin_rt rfl)
end Z


set_option Elab.async false
set_option linter.all false
set_option maxRecDepth 100000
set_option maxHeartbeats 4000000
namespace Z
open PySem PySem.Spec PyProof.Rows L2
/-! ## the law about vectors -/
def noneV : List D := [.tup [], .tup (List.replicate 9 (.int 1)), .tup [.int 1, .bl true], .tup [.int 1000001, .int 1], .tup [.tup [.int 1, .int 0], .tup [.int 0, .int 1]], .int 5, .non, .str "1,2"]
theorem noneV_ok : ∀ d ∈ noneV, (its' d).all pl = true ∧ vecB d = false ∧ isL d = false ∧ pl d = true ∧ selfS 9 d = true := by
  have h : noneV.all (fun d => (its' d).all pl && (!vecB d && (!isL d && (pl d && selfS 9 d)))) = true := by decide +kernel
  intro d hd
  have := List.all_eq_true.mp h d hd
  simp only [Bool.and_eq_true, Bool.not_eq_true', Bool.not_eq_eq_eq_not, Bool.not_true] at this
  exact this
theorem sl_ptr {S : Store} {k : Nat} {r : List Str} (hk : S[k]? = some (.lst (r.map .str))) (h : r.length ≤ 1000) (lo hi : Option Int) : slD false (.ptr k) lo hi S = some (.lst ((cutA r lo hi).map .str), S) := by
  have := cutA_len r lo hi
  simp only [slD, seqD, hk, cutA_map, mk_f, List.length_map]
  rw [if_pos (fits_le (by omega))]
theorem join_words {S : Store} {x : D} {ws : List Str} (h : itsD S x = some (ws.map .str)) (hw : ∀ w ∈ ws, Tx 8 w) (hl : ws.length ≤ 20) : joinM (.str ",") [x] S = some (.str (Txt.join "," ws), S) ∧ Tx 180 (Txt.join "," ws) := by
  have c1 : Tx 1 ("," : Str) := tx_of "," 1 (by decide +kernel)
  exact ⟨join_tx h hw c1 (by omega), (tx_join' c1 hw).mono (by omega)⟩
theorem app2 {ρ : Rho} {o o' : O} {ws ts : List Str} {e : IE} {z : Str} (h9 : ∀ S, varD 9 ρ S = pur (.ptr 2) S) (hl : ts.length ≤ 100) (he : runE ρ e [o, .lst (ws.map .str), .lst (ts.map .str)] = pur (.str z) [o', .lst (ws.map .str), .lst (ts.map .str)]) :
    runS ρ (.expr (.meth .append (.var 9) e)) [o, .lst (ws.map .str), .lst (ts.map .str)] = pur (.nx ρ) [o', .lst (ws.map .str), .lst ((ts ++ [z]).map .str)] := by
  have ca := ck_app (S := [o, .lst (ws.map .str), .lst (ts.map .str)]) (k := 2) (ds := ts.map .str) rfl
  have ap := app_ptr (S := [o', .lst (ws.map .str), .lst (ts.map .str)]) (k := 2) (ds := ts.map .str) (y := .str z) rfl (by rw [List.length_map]; omega)
  rw [rs_expr, re_meth]
  simp only [re_var, h9, bnd_pur, ca, if_true, he, sm_app, ap, lft_some]
  simp
def midE : IE := .meth .join (.str ",") (.bin false .Add (.bin false .Add (.sl false (.var 5) .no (.yes (.var 7))) (.lst false (.cons (.call "_law_word" 1 fn__law_word (.cons (.var 0) .nil)) .nil))) (.sl false (.var 5) (.yes (.bin false .Add (.var 7) (.int 1))) .no))
theorem mid_word {ρ : Rho} {o : O} (ho : Src o) {ws ts : List Str} {a : Nat} (h0 : ∀ S, varD 0 ρ S = pur (.ptr 0) S) (h5 : ∀ S, varD 5 ρ S = pur (.ptr 1) S) (h7 : ∀ S, varD 7 ρ S = pur (.int (a : Nat)) S) (hw : ∀ w ∈ ws, Tx 8 w) (hl : ws.length ≤ 8) :
    ∃ z o', runE ρ midE [o, .lst (ws.map .str), .lst (ts.map .str)] = pur (.str z) [o', .lst (ws.map .str), .lst (ts.map .str)] ∧ Src o' ∧ Tx 180 z := by
  obtain ⟨w, o1, e1, s1, t1⟩ := law_word ho [.lst (ws.map .str), .lst (ts.map .str)]
  have la := cutA_len ws none (some (a : Int))
  have lb := cutA_len ws (some ((a : Int) + 1)) none
  have ha : ∀ x ∈ cutA ws none (some (a : Int)), Tx 8 x := fun x hx => hw x (cutA_mem hx)
  have hb : ∀ x ∈ cutA ws (some ((a : Int) + 1)) none, Tx 8 x := fun x hx => hw x (cutA_mem hx)
  have c1 := sl_ptr (S := [o, .lst (ws.map .str), .lst (ts.map .str)]) (k := 1) (r := ws) rfl (by omega) none (some (a : Int))
  have c2 := sl_ptr (S := [o1, .lst (ws.map .str), .lst (ts.map .str)]) (k := 1) (r := ws) rfl (by omega) (some ((a : Int) + 1)) none
  generalize cutA ws none (some (a : Int)) = A at la ha c1
  generalize cutA ws (some ((a : Int) + 1)) none = B at lb hb c2
  have a1 := add_w (S := [o1, .lst (ws.map .str), .lst (ts.map .str)]) (A := A) (B := [w]) (by simp; omega)
  have a2 := add_w (S := [o1, .lst (ws.map .str), .lst (ts.map .str)]) (A := A ++ [w]) (B := B) (by simp; omega)
  have w1 : D.lst [D.str w] = D.lst ([w].map .str) := rfl
  obtain ⟨j1, j2⟩ := join_words (S := [o1, .lst (ws.map .str), .lst (ts.map .str)]) (x := .lst ((A ++ [w] ++ B).map .str)) (ws := A ++ [w] ++ B) rfl (by
    intro x hx
    simp only [List.mem_append, List.mem_singleton] at hx
    rcases hx with (hx | rfl) | hx
    · exact ha x hx
    · exact t1
    · exact hb x hx) (by simp; omega)
  refine ⟨_, o1, ?_, s1, j2⟩
  unfold midE
  simp only [re_meth, re_str, bnd_pur, ck_join, if_true, re_bin, re_sl, re_var, h5, h7, h0, ro_no, ro_yes, partM_int, c1, lft_some, re_lstF, re_call, res_cons, res_nil, List.length_cons, List.length_nil, e1, lst_1, w1, bin_add, a1, re_int, add_int, c2, a2, sm_join, j1]
theorem law_vectors {o : O} (ho : Src o) : ∃ o', fn__law_vectors [.ptr 0] [o] = pur (.bl true) [o'] ∧ Src o' := by
  obtain ⟨a, o1, e1, h1, a0, a1⟩ := draw_spec ho (L := []) (m := 8) (by decide) (by decide)
  rw [fn__law_vectors, retF_fin]
  have es : startR nm__law_vectors [.ptr 0] = [some (.ptr 0), none, none, none, none, none, none, none, none, none, none, none, none] := rfl
  simp only [ir__law_vectors, es]
  obtain ⟨n, hn⟩ := Int.eq_ofNat_of_zero_le (show 0 ≤ 1 + a by omega)
  obtain ⟨us, S2, q1, q2, q3, o2, h2, rfl⟩ := lc_inv (own := [("j", 2)]) (t := .nm 2) (it := .rng1 (.bin false .Add (.int 1) (.call "_law_draw" 2 fn__law_draw (.cons (.var 0) (.cons (.int 8) .nil))))) (cs := .no) (elt := .call "_law_one" 1 fn__law_one (.cons (.var 0) .nil)) (ρ := [some (.ptr 0), none, none, none, none, none, none, none, none, none, none, none, none]) (S := [o]) (S1 := [o1])
    (fun S => ∃ o', Src o' ∧ S = [o']) (fun v => ∃ i : Int, v = .int i ∧ -1000000 ≤ i ∧ i ≤ 1000000) (rng_small (v := (n : Nat)) (by simp [e1, hn]) (by omega) (by omega)) (by simp; omega) (fun _ _ => rfl) (by
      rintro d' hd' S ⟨o', s', rfl⟩
      obtain ⟨v, o5, f1, f2, f3⟩ := law_one s' []
      exact ⟨_, rfl, rfl, .int v, [o5], by simp [wipeR, f1], ⟨o5, f2, rfl⟩, v, rfl, f3⟩) ⟨o1, h1, rfl⟩
  obtain ⟨l, rfl, hl⟩ := all_ex (f := D.int) (Q := fun i => -1000000 ≤ i ∧ i ≤ 1000000) q3
  have hln : l.length = n := by simpa using q2
  have hne : l ≠ [] := fun z => by rw [z] at hln; simp at hln; omega
  have h8 : l.length ≤ 8 := by omega
  obtain ⟨k, o3, e3, h3, k0, k1⟩ := draw_spec h2 (L := []) (m := 2) (by decide) (by decide)
  have hcopy : ∀ (mk1 : List D → D) (S : Store) x1 x2 x3 x4 x5 x6 x7 x8 x9 x10 x11 x12, (∀ ds, seqW (mk1 ds) S = some ⟨ds, fun _ => true⟩) → runE [x1, x2, x3, some (mk1 (l.map .int)), x4, x5, x6, x7, x8, x9, x10, x11, x12] (.lc false [("x", 4)] (.nm 4) (.seq (.var 3)) .no (.var 4)) S = pur (.lst (l.map .int)) S := by
    intro mk1 S x1 x2 x3 x4 x5 x6 x7 x8 x9 x10 x11 x12 hm
    exact lc_e l .int .int (w := ⟨l.map .int, fun _ => true⟩) (by simp [hm]) rfl rfl (by omega) fun x hx => ⟨_, rfl, rfl, rfl⟩
  have hcv : runE [some (.ptr 0), some (.lst (l.map .int)), none, none, none, none, none, none, none, none, none, none, none] (.lc false [("x", 4)] (.nm 4) (.seq (.var 1)) .no (.var 4)) [o3] = pur (.lst (l.map .int)) [o3] :=
    lc_e l .int .int (w := ⟨l.map .int, fun _ => true⟩) (by simp) rfl rfl (by omega) fun x hx => ⟨_, rfl, rfl, rfl⟩
  obtain ⟨d, hd, hdh, hdc⟩ : ∃ d, (d = .tup (l.map .int) ∨ d = .lst (l.map .int)) ∧ runE [some (.ptr 0), some (.lst (l.map .int)), none, none, none, none, none, none, none, none, none, none, none] (.ife (.cmp .Eq (.call "_law_draw" 2 fn__law_draw (.cons (.var 0) (.cons (.int 2) .nil))) (.int 0)) (.bi .tuple (.cons (.var 1) .nil)) (.lc false [("x", 4)] (.nm 4) (.seq (.var 1)) .no (.var 4))) [o2] = pur d [o3] ∧
      ∀ S x1 x2 x3 x4 x5 x6 x7 x8 x9 x10 x11 x12, runE [x1, x2, x3, some d, x4, x5, x6, x7, x8, x9, x10, x11, x12] (.lc false [("x", 4)] (.nm 4) (.seq (.var 3)) .no (.var 4)) S = pur (.lst (l.map .int)) S := by
    have hif : runT [some (.ptr 0), some (.lst (l.map .int)), none, none, none, none, none, none, none, none, none, none, none] (.cmp .Eq (.call "_law_draw" 2 fn__law_draw (.cons (.var 0) (.cons (.int 2) .nil))) (.int 0)) [o2] = pur (decide (k = 0)) [o3] := by
      simp [e3]
      by_cases c : k = 0 <;> simp [c]
    by_cases c : k = 0
    · refine ⟨_, .inl rfl, ?_, fun S x1 x2 x3 x4 x5 x6 x7 x8 x9 x10 x11 x12 => hcopy .tup S x1 x2 x3 x4 x5 x6 x7 x8 x9 x10 x11 x12 fun _ => rfl⟩
      rw [re_ife, hif]
      simp [c]
    · refine ⟨_, .inr rfl, ?_, fun S x1 x2 x3 x4 x5 x6 x7 x8 x9 x10 x11 x12 => hcopy .lst S x1 x2 x3 x4 x5 x6 x7 x8 x9 x10 x11 x12 fun _ => rfl⟩
      rw [re_ife, hif, bnd_pur, if_neg (by simp [c]), hcv]
  have hd1 : pl d = true ∧ (its' d).all pl = true ∧ isRow d = true ∧ its' d = l.map .int := by
    rcases hd with rfl | rfl <;> exact ⟨rfl, by simp [its', pl], rfl, rfl⟩
  have hdv : vecB d = true := by
    have b' : (l.map D.int).all (inR (-1000000) 1000000) = true := by
      rw [List.all_map, List.all_eq_true]
      intro v hv
      have := hl v hv
      simp [inR]
      exact this
    simp only [vecB, hd1.2.2.1, hd1.2.2.2, List.length_map, b', Bool.true_and, Bool.and_true, Bool.and_eq_true, decide_eq_true_eq]
    have : 1 ≤ l.length := List.length_pos_iff.mpr hne
    omega
  generalize hws : l.map its = ws
  have hwt : ∀ w ∈ ws, Tx 8 w := by
    subst hws
    intro w hw
    obtain ⟨v, hv, rfl⟩ := List.mem_map.mp hw
    exact tx_num (hl v hv)
  have hwl : ws.length = l.length := by subst hws; simp
  have lcw := lc_t (own := [("x", 4)]) (t := .nm 4) (it := .seq (.var 1)) (cs := .no) (elt := .bi .str (.cons (.var 4) .nil)) (ρ := [some (.ptr 0), some (.lst (l.map .int)), none, some d, none, none, none, none, none, none, none, none, none]) (S := [o3]) l .int (fun v => .str (its v)) (w := ⟨l.map .int, fun _ => true⟩) (by simp) rfl rfl (by omega) fun v hv => ⟨_, rfl, rfl, by simp [wipeR, str_int (log_small (hl v hv))]⟩
  have hwm : (l.map fun v => D.str (its v)) = ws.map .str := by subst hws; simp [List.map_map]
  rw [hwm] at lcw
  obtain ⟨j1, j2⟩ := join_words (S := [o3, .lst (ws.map .str)]) (x := .ptr 1) (ws := ws) rfl hwt (by omega)
  have wv := (write_vector hd1.1 hd1.2.1 [o3, .lst (ws.map .str)]).2 l hdv hd1.2.2.2
  rw [hws] at wv
  generalize hwh : Txt.join "," ws = wh at j1 j2 wv
  have gv := gives (S := [o3, .lst (ws.map .str)]) (.str 8 wh (j2.mono (by decide)))
  obtain ⟨at', o4, e4, h4, at0, at1⟩ := draw_spec h3 (L := [.lst (ws.map .str)]) (m := l.length) (by omega) (by omega)
  obtain ⟨lo, o5, e5, h5, lo0, lo1⟩ := draw_spec h4 (L := [.lst (ws.map .str)]) (m := l.length) (by omega) (by omega)
  obtain ⟨at', rfl⟩ := Int.eq_ofNat_of_zero_le at0
  obtain ⟨lo, rfl⟩ := Int.eq_ofNat_of_zero_le lo0
  obtain ⟨z1, o6, e6, h6, t1⟩ := law_bent h5 [.lst (ws.map .str)] j2 (by decide)
  obtain ⟨z2, o7, e7, h7, t2⟩ := law_bent h6 [.lst (ws.map .str)] j2 (by decide)
  have cm : Tx 1 ("," : Str) := tx_of "," 1 (by decide +kernel)
  have sm : Tx 2 (";1" : Str) := tx_of ";1" 2 (by decide +kernel)
  have ad1 := add_tx (m := false) (S := [o7, .lst (ws.map .str)]) j2 cm (by decide)
  have ad2 := add_tx (m := false) (S := [o7, .lst (ws.map .str)]) cm j2 (by decide)
  have ad3 := add_tx (m := false) (S := [o7, .lst (ws.map .str)]) j2 sm (by decide)
  generalize hts0 : [wh, z1, z2, wh ++ ",", "," ++ wh, wh ++ ";1"] = ts0
  have b0 : (∀ t ∈ ts0, Tx 90000 t) ∧ ts0.length = 6 := by
    subst hts0
    refine ⟨?_, rfl⟩
    simp only [List.forall_mem_cons]
    exact ⟨j2.mono (by decide), t1.mono (by decide), t2.mono (by decide), (j2.append cm).mono (by decide), (cm.append j2).mono (by decide), (j2.append sm).mono (by decide), by simp⟩
  obtain ⟨y1, o8, m1, h8', u1⟩ := mid_word h7 (ws := ws) (ts := ts0) (a := at') (ρ := [some (.ptr 0), some (.lst (l.map .int)), none, some d, none, some (.ptr 1), some (.str wh), some (.int (at' : Nat)), some (.int (lo : Nat)), some (.ptr 2), none, none, none]) (fun _ => rfl) (fun _ => rfl) (fun _ => rfl) hwt (by omega)
  obtain ⟨wx, o9, e9, h9, t9⟩ := law_word h8' [.lst (ws.map .str), .lst ((ts0 ++ [y1]).map .str)]
  have hlo : lo < ws.length := by omega
  have hwt2 : ∀ w ∈ ws.set lo wx, Tx 8 w := by
    intro w hw
    rcases List.mem_or_eq_of_mem_set hw with hw | rfl
    · exact hwt w hw
    · exact t9
  have hwl2 : (ws.set lo wx).length = ws.length := List.length_set
  have hsub : runS [some (.ptr 0), some (.lst (l.map .int)), none, some d, none, some (.ptr 1), some (.str wh), some (.int (at' : Nat)), some (.int (lo : Nat)), some (.ptr 2), none, none, none] (.sub (.call "_law_word" 1 fn__law_word (.cons (.var 0) .nil)) (.var 5) (.var 8)) [o8, .lst (ws.map .str), .lst ((ts0 ++ [y1]).map .str)] = pur (.nx [some (.ptr 0), some (.lst (l.map .int)), none, some d, none, some (.ptr 1), some (.str wh), some (.int (at' : Nat)), some (.int (lo : Nat)), some (.ptr 2), none, none, none]) [o9, .lst ((ws.set lo wx).map .str), .lst ((ts0 ++ [y1]).map .str)] := by
    rw [rs_sub]
    simp only [re_call, res_cons, res_nil, re_var, var_0, var_s, bnd_pur, List.length_cons, List.length_nil, if_true, e9, setI]
    simp [ixN, hlo, List.map_set]
  generalize ws.set lo wx = ws2 at hwt2 hwl2 hsub
  obtain ⟨y2, o10, m2, h10, u2⟩ := mid_word h9 (ws := ws2) (ts := ts0 ++ [y1]) (a := at') (ρ := [some (.ptr 0), some (.lst (l.map .int)), none, some d, none, some (.ptr 1), some (.str wh), some (.int (at' : Nat)), some (.int (lo : Nat)), some (.ptr 2), none, none, none]) (fun _ => rfl) (fun _ => rfl) (fun _ => rfl) hwt2 (by omega)
  obtain ⟨wy, o11, e11, h11, t11⟩ := law_word h10 [.lst (ws2.map .str), .lst ((ts0 ++ [y1] ++ [y2]).map .str)]
  obtain ⟨j3, j4⟩ := join_words (S := [o11, .lst (ws2.map .str), .lst ((ts0 ++ [y1] ++ [y2]).map .str)]) (x := .lst ((ws2 ++ [wy] ++ ws2).map .str)) (ws := ws2 ++ [wy] ++ ws2) rfl (by
    intro x hx
    simp only [List.mem_append, List.mem_singleton] at hx
    rcases hx with (hx | rfl) | hx
    · exact hwt2 x hx
    · exact t11
    · exact hwt2 x hx) (by simp; omega)
  have hlast : runE [some (.ptr 0), some (.lst (l.map .int)), none, some d, none, some (.ptr 1), some (.str wh), some (.int (at' : Nat)), some (.int (lo : Nat)), some (.ptr 2), none, none, none] (.meth .join (.str ",") (.bin false .Add (.bin false .Add (.var 5) (.lst false (.cons (.call "_law_word" 1 fn__law_word (.cons (.var 0) .nil)) .nil))) (.var 5))) [o10, .lst (ws2.map .str), .lst ((ts0 ++ [y1] ++ [y2]).map .str)] = pur (.str (Txt.join "," (ws2 ++ [wy] ++ ws2))) [o11, .lst (ws2.map .str), .lst ((ts0 ++ [y1] ++ [y2]).map .str)] := by
    have w1 : D.lst [D.str wy] = D.lst ([wy].map .str) := rfl
    have g1 : addD false (.ptr 1) (.lst ([wy].map .str)) [o11, .lst (ws2.map .str), .lst ((ts0 ++ [y1] ++ [y2]).map .str)] = some (.lst ((ws2 ++ [wy]).map .str), [o11, .lst (ws2.map .str), .lst ((ts0 ++ [y1] ++ [y2]).map .str)]) := by
      have : fits (ws2.length + 1) = true := fits_le (by omega)
      simp [addD, seqD, this]
    have g2 : addD false (.lst ((ws2 ++ [wy]).map .str)) (.ptr 1) [o11, .lst (ws2.map .str), .lst ((ts0 ++ [y1] ++ [y2]).map .str)] = some (.lst ((ws2 ++ [wy] ++ ws2).map .str), [o11, .lst (ws2.map .str), .lst ((ts0 ++ [y1] ++ [y2]).map .str)]) := by
      have : fits (ws2.length + (ws2.length + 1)) = true := fits_le (by omega)
      simp [addD, seqD, this]
    simp only [re_meth, re_str, bnd_pur, ck_join, if_true, re_bin, re_var, var_0, var_s, re_lstF, re_call, res_cons, res_nil, List.length_cons, List.length_nil, e11, lst_1, w1, bin_add, g1, lft_some, g2, sm_join, j3]
  generalize hts : ts0 ++ [y1] ++ [y2] ++ [Txt.join "," (ws2 ++ [wy] ++ ws2)] = ts
  have tz : ∀ t ∈ ts, Tx 90000 t := by
    subst hts
    intro t ht
    simp only [List.mem_append, List.mem_singleton] at ht
    rcases ht with ((ht | rfl) | rfl) | rfl
    · exact b0.1 t ht
    · exact u1.mono (by decide)
    · exact u2.mono (by decide)
    · exact j4.mono (by decide)
  have tl : ts.length = 9 := by subst hts; simp [b0.2]
  have okS : ∀ o, Src o → OkS [o, .lst (ws2.map .str), .lst (ts.map .str)] := fun o h => by
    simp only [OkS, List.all_cons, List.all_nil, List.length_cons, List.length_nil, ok_src h, Bool.true_and, Bool.and_true]
    simp [okO, ok_strs]
  obtain ⟨ρ', S', k1, k2⟩ := for_inv (stay := stayD 2 (ts.map .str)) (tg := tgM (.nm 10)) (body := fun ρ' S' => runB (.cons (.ife (.not (.call "_law_fits" 2 fn__law_fits (.cons (.told (.call "read_vector" 1 fn_read_vector (.cons (.var 10) .nil))) (.cons (.call "_law_vector_due" 1 fn__law_vector_due (.cons (.var 10) .nil)) .nil)))) (.cons (.ret (.bl false))
  .nil) .nil)
  .nil) ρ' S') D.str (fun k ρ S => ∃ x10, ρ = [some (.ptr 0), some (.lst (l.map .int)), none, some d, none, some (.ptr 1), some (.str wh), some (.int (at' : Nat)), some (.int (lo : Nat)), some (.ptr 2), x10, none, none] ∧ S = [o11, .lst (ws2.map .str), .lst (ts.map .str)]) ts.length ts 0 [some (.ptr 0), some (.lst (l.map .int)), none, some d, none, some (.ptr 1), some (.str wh), some (.int (at' : Nat)), some (.int (lo : Nat)), some (.ptr 2), none, none, none] [o11, .lst (ws2.map .str), .lst (ts.map .str)] (by omega) ⟨none, rfl, rfl⟩ (by
    rintro k ρ S ⟨x, rfl, rfl⟩
    simp [stayD, eqDs_refl]) (by
    rintro z hz k ρ S hk ⟨x8, rfl, rfl⟩
    obtain ⟨t, u, f1, f2, f3⟩ := fit_vector (S := [o11, .lst (ws2.map .str), .lst (ts.map .str)]) (tz z hz) (by decide) (okS o11 h11)
    refine ⟨_, _, [o11, .lst (ws2.map .str), .lst (ts.map .str)], rfl, ?_, some (.str z), rfl, rfl⟩
    simp [f1, f2, f3])
  obtain ⟨x10, rfl, rfl⟩ := k2
  obtain ⟨q, o12, e12, h12, q0, q1'⟩ := draw_spec h11 (L := [.lst (ws2.map .str), .lst (ts.map .str)]) (m := 8) (by decide) (by decide)
  obtain ⟨nn, hnn, i8⟩ := pick_tup (l := noneV) q0 (by simpa [noneV] using q1')
  obtain ⟨n1, n2, n3, n4, n5⟩ := noneV_ok nn hnn
  have wn := told_ex ((write_vector n4 n1 [o12, .lst (ws2.map .str), .lst (ts.map .str)]).1 n2) (by decide +kernel)
  have rn := raises (S := [o12, .lst (ws2.map .str), .lst (ts.map .str)]) (c := "InvalidVector") (tx_lit "InvalidVector" (by decide +kernel)) n4 n3 (selfS_sm n5)
  obtain ⟨w, o13, e13, h13, w0, w1⟩ := draw_spec h12 (L := [.lst (ws2.map .str), .lst (ts.map .str)]) (m := 5) (by decide) (by decide)
  obtain ⟨nx, hnx, i5⟩ := pick_tup (l := [.int 5, .non, .bl false, .tup [.str "1", .str "2"], .tup (l.map .int)]) w0 (by simpa using w1)
  have hx : pl nx = true ∧ isS nx = false := by
    simp only [List.mem_cons, List.not_mem_nil, or_false] at hnx
    rcases hnx with rfl | rfl | rfl | rfl | rfl <;> exact ⟨rfl, rfl⟩
  have wxx := told_ex (read_vector_no hx.1 hx.2 [o13, .lst (ws2.map .str), .lst (ts.map .str)]) (by decide +kernel)
  have rx := raises (S := [o13, .lst (ws2.map .str), .lst (ts.map .str)]) (c := "InvalidText") (t := .int 0) (d := .int 0) (tx_lit "InvalidText" (by decide +kernel)) rfl rfl (.int 8 0)
  refine ⟨o13, ?_, h13⟩
  refine st_nx (ρ' := [some (.ptr 0), some (.lst (l.map .int)), none, none, none, none, none, none, none, none, none, none, none]) (S' := [o2]) (by rw [rs_asg, q1]; rfl) ?_
  refine st_nx (ρ' := [some (.ptr 0), some (.lst (l.map .int)), none, some d, none, none, none, none, none, none, none, none, none]) (S' := [o3]) (by rw [rs_asg, hdh]; rfl) ?_
  refine st_nx (ρ' := [some (.ptr 0), some (.lst (l.map .int)), none, some d, none, some (.ptr 1), none, none, none, none, none, none, none]) (S' := [o3, .lst (ws.map .str)]) (by rw [rs_asg, lcw]; rfl) ?_
  refine st_nx (ρ' := [some (.ptr 0), some (.lst (l.map .int)), none, some d, none, some (.ptr 1), some (.str wh), none, none, none, none, none, none]) (S' := [o3, .lst (ws.map .str)]) (by simp [j1]) ?_
  refine st_nx (ρ' := [some (.ptr 0), some (.lst (l.map .int)), none, some d, none, some (.ptr 1), some (.str wh), none, none, none, none, none, none]) (S' := [o3, .lst (ws.map .str)]) (if_f (S' := [o3, .lst (ws.map .str)]) (by simp [-re_lc, wv, gv, hdc, eq_ints]) rfl) ?_
  refine st_nx (ρ' := [some (.ptr 0), some (.lst (l.map .int)), none, some d, none, some (.ptr 1), some (.str wh), some (.int (at' : Nat)), none, none, none, none, none]) (S' := [o4, .lst (ws.map .str)]) (by simp [e4]) ?_
  refine st_nx (ρ' := [some (.ptr 0), some (.lst (l.map .int)), none, some d, none, some (.ptr 1), some (.str wh), some (.int (at' : Nat)), some (.int (lo : Nat)), none, none, none, none]) (S' := [o5, .lst (ws.map .str)]) (by simp [e5]) ?_
  refine st_nx (ρ' := [some (.ptr 0), some (.lst (l.map .int)), none, some d, none, some (.ptr 1), some (.str wh), some (.int (at' : Nat)), some (.int (lo : Nat)), some (.ptr 2), none, none, none]) (S' := [o7, .lst (ws.map .str), .lst (ts0.map .str)]) (by
    subst hts0
    simp [-add_str, e6, e7, ad1, ad2, ad3, ptrD, fits]) ?_
  refine st_nx (app2 (fun _ => rfl) (by omega) m1) ?_
  refine st_nx hsub ?_
  refine st_nx (app2 (fun _ => rfl) (by simp; omega) m2) ?_
  refine st_nx (app2 (fun _ => rfl) (by simp; omega) hlast) ?_
  rw [hts]
  refine st_nx (ρ' := [some (.ptr 0), some (.lst (l.map .int)), none, some d, none, some (.ptr 1), some (.str wh), some (.int (at' : Nat)), some (.int (lo : Nat)), some (.ptr 2), x10, none, none]) (S' := [o11, .lst (ws2.map .str), .lst (ts.map .str)]) (loop_of (w := ⟨ts.map .str, stayD 2 (ts.map .str)⟩) (S1 := [o11, .lst (ws2.map .str), .lst (ts.map .str)]) (by simp [seqW]) k1) ?_
  refine st_nx (ρ' := [some (.ptr 0), some (.lst (l.map .int)), none, some d, none, some (.ptr 1), some (.str wh), some (.int (at' : Nat)), some (.int (lo : Nat)), some (.ptr 2), x10, some nn, none]) (S' := [o12, .lst (ws2.map .str), .lst (ts.map .str)]) ?_ ?_
  · have hN : runE [some (.ptr 0), some (.lst (l.map .int)), none, some d, none, some (.ptr 1), some (.str wh), some (.int (at' : Nat)), some (.int (lo : Nat)), some (.ptr 2), x10, none, none] (.tup (.cons (.tup .nil) (.cons (.bin false .Mult (.tup (.cons (.int 1) .nil)) (.int 9)) (.cons (.tup (.cons (.int 1) (.cons (.bl true) .nil))) (.cons (.tup (.cons (.int 1000001) (.cons (.int 1) .nil))) (.cons (.tup (.cons (.tup (.cons (.int 1) (.cons (.int 0) .nil))) (.cons (.tup (.cons (.int 0) (.cons (.int 1) .nil))) .nil))) (.cons (.int 5) (.cons .non (.cons (.str "1,2") .nil))))))))) [o11, .lst (ws2.map .str), .lst (ts.map .str)] = pur (.tup noneV) [o11, .lst (ws2.map .str), .lst (ts.map .str)] := by
      simp [mulD, fits, noneV]
    rw [rs_asg, re_ix, hN, bnd_pur]
    simp [e12, i8]
  refine st_nx (ρ' := [some (.ptr 0), some (.lst (l.map .int)), none, some d, none, some (.ptr 1), some (.str wh), some (.int (at' : Nat)), some (.int (lo : Nat)), some (.ptr 2), x10, some nn, none]) (S' := [o12, .lst (ws2.map .str), .lst (ts.map .str)]) (if_f (S' := [o12, .lst (ws2.map .str), .lst (ts.map .str)]) (by simp [wn, rn]) rfl) ?_
  refine st_nx (ρ' := [some (.ptr 0), some (.lst (l.map .int)), none, some d, none, some (.ptr 1), some (.str wh), some (.int (at' : Nat)), some (.int (lo : Nat)), some (.ptr 2), x10, some nn, some nx]) (S' := [o13, .lst (ws2.map .str), .lst (ts.map .str)]) (by simp [e13, i5, fits]) ?_
  refine st_rt (d := .bl true) (S' := [o13, .lst (ws2.map .str), .lst (ts.map .str)]) (by simp [wxx, rx]) ?_
  refine (fin_cut (n := 1) (d' := .bl true) ?_ (by simp [frzD]) (by simp)).trans ?_
  · simp [ok_src h13]
  · simp
end Z


set_option Elab.async false
set_option linter.all false
set_option maxRecDepth 100000
set_option maxHeartbeats 4000000
namespace Z
open PySem PySem.Spec PyProof.Rows L2
/-! ## types -/
def MO : Int := 1000000000000000000000000000000000000000000000000000000000000
def okT (p : Int) : List D → Bool
  | [] => true
  | d :: r => inR 2 MO d && match d with
    | .int v => decide (v.fmod p = 0) && okT v r
    | _ => false
def typB : ISs := (.cons (.ife (.or (.cons (.not (.call "is_from_to" 3 fn_is_from_to (.cons (.var 2) (.cons (.int 2) (.cons (.glob "MOST_ORDER" (.int 1000000000000000000000000000000000000000000000000000000000000)) .nil))))) (.cons (.cmp .NotEq (.bin false .Mod (.var 2) (.var 1)) (.int 0)) .nil))) (.cons (.ret (.bl false))
  .nil) .nil)
  (.cons (.asg (.nm 1) (.var 2))
  .nil))
theorem inR_int {l m : Int} {d : D} (h : inR l m d = true) : ∃ v, d = .int v ∧ l ≤ v ∧ v ≤ m := by
  cases d <;> simp [inR] at h
  exact ⟨_, rfl, h⟩
theorem typ_loop {S : Store} {q : Option D} : ∀ (ds : List D) (p : Int) (x2 : Option D), ds.all pl = true → p ≠ 0 →
    if okT p ds = true then ∃ y1 y2, forF (fun _ => true) (tgM (.nm 2)) (fun ρ' S' => runB typB ρ' S') ds [q, some (.int p), x2] S = pur (.nx [q, y1, y2]) S
    else forF (fun _ => true) (tgM (.nm 2)) (fun ρ' S' => runB typB ρ' S') ds [q, some (.int p), x2] S = pur (.rt (.bl false)) S
  | [], p, x2, _, _ => by
    rw [if_pos (by rfl)]
    exact ⟨_, _, rfl⟩
  | d :: r, p, x2, h, hp => by
    simp only [List.all_cons, Bool.and_eq_true] at h
    have hf := is_from_to h.1 2 1000000000000000000000000000000000000000000000000000000000000 S
    have t : tgM (.nm 2) d S [q, some (.int p), x2] = some [q, some (.int p), some d] := rfl
    by_cases c1 : inR 2 1000000000000000000000000000000000000000000000000000000000000 d = true
    · obtain ⟨v, rfl, v1, v2⟩ := inR_int c1
      by_cases c2 : v.fmod p = 0
      · have b : runB typB [q, some (.int p), some (.int v)] S = pur (.nx [q, some (.int v), some (.int v)]) S := by
          unfold typB
          rw [rb_nx (ρ' := [q, some (.int p), some (.int v)]) (S' := S) (if_f (S' := S) (by simp [v1, v2, hp, c2]) rfl) rfl]
          simp
        have ih := typ_loop (S := S) (q := q) r v (some (.int v)) h.2 (by omega)
        have e : okT p (.int v :: r) = okT v r := by
          have c1' : inR 2 MO (.int v) = true := c1
          simp only [okT, c1', c2, decide_true, Bool.true_and]
        rw [e]
        simp only [forF, if_true, t, b, pur]
        simpa only [pur] using ih
      · have b : runB typB [q, some (.int p), some (.int v)] S = pur (.rt (.bl false)) S := by
          unfold typB
          rw [rb_cons, if_t (S' := S) (by simp [v1, v2, hp, c2]) rfl]
          simp
        have e : okT p (.int v :: r) = false := by simp only [okT, c2, decide_false, Bool.false_and, Bool.and_false]
        rw [e]
        simp only [forF, if_true, t, b, pur]
        simp
    · rw [Bool.not_eq_true] at c1
      have b : runB typB [q, some (.int p), some d] S = pur (.rt (.bl false)) S := by
        unfold typB
        rw [rb_cons, if_t (S' := S) (by simp [hf, c1]) rfl]
        simp
      have e : okT p (d :: r) = false := by
        have c1' : inR 2 MO d = false := c1
        simp only [okT, c1', Bool.false_and]
      rw [e]
      simp only [forF, if_true, t, b, pur]
      simp
def sdR (d : D) : D := (its' d).getD 1 .non
def typeB (d : D) : Bool := isRow d && (decide ((its' d).length = 2) && (isRow (fsR d) && (inR 0 64 (sdR d) && okT 1 (its' (fsR d)))))
theorem is_type {d : D} (h : pl2 d = true) (S : Store) : fn_is_type [d] S = pur (.bl (typeB d)) S := by
  simp only [pl2, Bool.and_eq_true, List.all_eq_true] at h
  obtain ⟨hp, hq⟩ := h
  have hr := is_row hp S
  rw [fn_is_type, retF_fin]
  have e0 : startR nm_is_type [d] = [some d, none, none] := rfl
  simp only [ir_is_type, e0]
  by_cases c : isRow d = true
  · have hl := row_len c S
    by_cases c2 : (its' d).length = 2
    · obtain ⟨x, y, hxy⟩ : ∃ x y, its' d = [x, y] := by
        match hd : its' d, c2 with
        | [x, y], _ => exact ⟨x, y, rfl⟩
      have i0 : ixD d (.int 0) S = pur x S := by
        rcases row_cases c with ⟨ds, rfl⟩ | ⟨ds, rfl⟩
        · exact ix_tup (k := 0) (by simp only [its'] at hxy; rw [hxy]; rfl)
        · exact ix_lst (k := 0) (by simp only [its'] at hxy; rw [hxy]; rfl)
      have i1 : ixD d (.int 1) S = pur y S := by
        rcases row_cases c with ⟨ds, rfl⟩ | ⟨ds, rfl⟩
        · exact ix_tup (k := 1) (by simp only [its'] at hxy; rw [hxy]; rfl)
        · exact ix_lst (k := 1) (by simp only [its'] at hxy; rw [hxy]; rfl)
      have hx := hq x (by rw [hxy]; simp)
      have hy := hq y (by rw [hxy]; simp)
      have hrx := is_row hx.1 S
      have hfy := is_from_to hy.1 0 64 S
      have ef : fsR d = x := by simp [fsR, hxy]
      have es : sdR d = y := by simp [sdR, hxy]
      have hl2 : lenD [d] S = some (.int 2, S) := by rw [hl, c2]; rfl
      by_cases c3 : isRow x = true ∧ inR 0 64 y = true
      · refine st_nx (ρ' := [some d, none, none]) (S' := S) (if_f (S' := S) (by simp [hr, c, hl2, i0, i1, hrx, hfy, c3.1, c3.2]) rfl) ?_
        refine st_nx (ρ' := [some d, some (.int 1), none]) (S' := S) (by simp) ?_
        have lp := typ_loop (S := S) (q := some d) (its' x) 1 none (List.all_eq_true.mpr hx.2) (by decide)
        have hs := row_seq c3.1 S
        have hi : runI [some d, some (.int 1), none] (.seq (.ix (.var 0) (.int 0))) S = pur ⟨its' x, fun _ => true⟩ S := by simp [i0, hs]
        have e : typeB d = okT 1 (its' x) := by
          simp only [typeB, c, c2, ef, es, c3.1, c3.2, decide_true, Bool.true_and]
        rw [e]
        by_cases c4 : okT 1 (its' x) = true
        · rw [if_pos c4] at lp
          obtain ⟨y1, y2, lp⟩ := lp
          refine st_nx (ρ' := [some d, y1, y2]) (S' := S) (loop_of (body := typB) hi lp) ?_
          exact st_rt (d := .bl true) (S' := S) (by simp) (by simp [c4])
        · rw [if_neg c4] at lp
          rw [Bool.not_eq_true] at c4
          exact st_rt (d := .bl false) (S' := S) (loop_of (body := typB) hi lp) (by simp [c4])
      · have e : typeB d = false := by
          simp only [typeB, c, c2, ef, es, decide_true, Bool.true_and]
          cases h1 : isRow x <;> cases h2 : inR 0 64 y <;> simp_all
        rw [e]
        refine st_rt (d := .bl false) (S' := S) (if_t (S' := S) ?_ (by simp)) (by simp)
        cases h1 : isRow x <;> cases h2 : inR 0 64 y <;> simp [hr, c, hl2, i0, i1, hrx, hfy, h1, h2] <;> simp_all
    · have e : typeB d = false := by simp [typeB, c2]
      rw [e]
      have c2' : ¬ ((its' d).length : Int) = 2 := by omega
      exact st_rt (d := .bl false) (S' := S) (if_t (S' := S) (by simp [hr, c, hl, c2']) (by simp)) (by simp)
  · rw [Bool.not_eq_true] at c
    have e : typeB d = false := by simp [typeB, c]
    rw [e]
    exact st_rt (d := .bl false) (S' := S) (if_t (S' := S) (by simp [hr, c]) (by simp)) (by simp)
theorem type_text_no {d : D} (h : pl2 d = true) (hb : typeB d = false) (S : Store) : fn_type_text [d] S = some (.err "Unfit" (.str "type"), S) := by
  have ht := is_type h S
  rw [fn_type_text, retF_fin]
  have e0 : startR nm_type_text [d] = [some d] := rfl
  simp only [ir_type_text, e0]
  exact st_err (c := "Unfit") (d := .str "type") (S' := S) (if_t (S' := S) (by simp [ht, hb]) (by simp)) (by simp)
end Z


set_option Elab.async false
set_option linter.all false
set_option maxRecDepth 100000
set_option maxHeartbeats 4000000
namespace Z
open PySem PySem.Spec PyProof.Rows L2
/-! ## types told -/
def okQ (p : Int) : List Int → Bool
  | [] => true
  | v :: r => decide (2 ≤ v ∧ v ≤ MO) && (decide (v.fmod p = 0) && okQ v r)
def endI (p : Int) : List Int → Int
  | [] => p
  | v :: r => endI v r
theorem okT_map : ∀ (l : List Int) (p : Int), okT p (l.map .int) = okQ p l
  | [], _ => rfl
  | v :: r, p => by
    simp only [List.map_cons, okT, okQ, okT_map r v, inR, Bool.decide_and]
theorem okQ_snoc (v : Int) : ∀ (l : List Int) (p : Int), okQ p (l ++ [v]) = (okQ p l && (decide (2 ≤ v ∧ v ≤ MO) && decide (v.fmod (endI p l) = 0)))
  | [], p => by
    rw [List.nil_append, okQ, okQ, okQ, endI, Bool.true_and, Bool.and_true]
  | w :: r, p => by
    rw [List.cons_append, okQ, okQ, endI, okQ_snoc v r w, Bool.and_assoc, Bool.and_assoc]
theorem endI_snoc (v : Int) : ∀ (l : List Int) (p : Int), endI p (l ++ [v]) = v
  | [], p => rfl
  | w :: r, p => by simp only [List.cons_append, endI, endI_snoc v r w]
theorem okQ_mem : ∀ {l : List Int} {p : Int}, okQ p l = true → ∀ v ∈ l, 2 ≤ v ∧ v ≤ MO
  | [], _, _, v, hv => by cases hv
  | w :: r, p, h, v, hv => by
    simp only [okQ, Bool.and_eq_true, decide_eq_true_eq] at h
    rcases List.mem_cons.mp hv with rfl | hv
    · exact h.1
    · exact okQ_mem h.2.2 v hv
theorem endI_pos : ∀ {l : List Int} {p : Int}, okQ p l = true → 1 ≤ p → 1 ≤ endI p l ∧ (l ≠ [] → 2 ≤ endI p l)
  | [], p, _, hp => ⟨hp, fun h => absurd rfl h⟩
  | w :: r, p, h, _ => by
    simp only [okQ, Bool.and_eq_true, decide_eq_true_eq] at h
    have := endI_pos h.2.2 (by omega)
    refine ⟨this.1, fun _ => ?_⟩
    cases r with
    | nil => exact h.1.1
    | cons a b => exact this.2 (by simp)
theorem big_ok {v : Int} (h : 2 ≤ v ∧ v ≤ MO) : v.natAbs.log2 < 1920 ∧ Tx 62 (its v) := by
  have hb : v.natAbs < 10 ^ 61 := by
    unfold MO at h
    have : (10 : Nat) ^ 61 = 10000000000000000000000000000000000000000000000000000000000000 := by decide
    omega
  refine ⟨Nat.lt_of_lt_of_le ((Nat.log2_lt (by omega)).mpr (Nat.lt_of_lt_of_le hb (by decide : 10 ^ 61 ≤ 2 ^ 210))) (by decide), tx_its (by decide) hb⟩
def zs (v : Int) : Str := "Z/" ++ its v
theorem zs_tx {v : Int} (h : 2 ≤ v ∧ v ≤ MO) : Tx 64 (zs v) := (tx_of "Z/" 2 (by decide +kernel)).append (big_ok h).2
/-- the parts of a type's text -/
def prs (l : List Int) (f : Nat) : List Str := l.map zs ++ List.replicate f ("Z" : Str)
def dueT (l : List Int) (f : Nat) : Str := if prs l f = [] then "0" else Txt.join " + " (prs l f)
theorem prs_tx {l : List Int} {f : Nat} (h : ∀ v ∈ l, 2 ≤ v ∧ v ≤ MO) : ∀ p ∈ prs l f, Tx 64 p := by
  intro p hp
  rcases List.mem_append.mp hp with hp | hp
  · obtain ⟨v, hv, rfl⟩ := List.mem_map.mp hp
    exact zs_tx (h v hv)
  · rw [(List.mem_replicate.mp hp).2]
    exact tx_of "Z" 64 (by decide +kernel)
theorem prs_len (l : List Int) (f : Nat) : (prs l f).length = l.length + f := by simp [prs]
theorem due_tx {l : List Int} {f : Nat} (h : ∀ v ∈ l, 2 ≤ v ∧ v ≤ MO) (hl : l.length ≤ 10) (hf : f ≤ 64) : Tx 10000 (dueT l f) := by
  unfold dueT
  split
  · exact tx_of "0" _ (by decide +kernel)
  · refine (tx_join' (n := 64) (k := 3) (tx_of " + " 3 (by decide +kernel)) (prs_tx h)).mono ?_
    rw [prs_len]
    omega
theorem mul_lst {xs : List D} {k : Int} {m : Bool} {S : Store} (h : (decide (-(2 ^ 63) ≤ k) && decide (k < 2 ^ 63)) = true) : mulD m (.lst xs) (.int k) S = mk m (List.replicate k.toNat xs).flatten S := by
  simp only [mulD, seqD, h, if_true]
theorem c63 {k : Int} (h0 : 0 ≤ k) (h : k ≤ 1000) : (decide (-(2 ^ 63) ≤ k) && decide (k < 2 ^ 63)) = true := by
  rw [Bool.and_eq_true, decide_eq_true_eq, decide_eq_true_eq]
  omega
theorem mulZ {f : Nat} (hf : f ≤ 64) (S : Store) : mulD false (.lst [.str "Z"]) (.int (f : Nat)) S = some (.lst ((List.replicate f ("Z" : Str)).map .str), S) := by
  have h1 : (List.replicate f [D.str "Z"]).flatten = (List.replicate f ("Z" : Str)).map .str := by
    rw [List.flatten_replicate_singleton, List.map_replicate]
  have h4 : fits (List.replicate f ("Z" : Str)).length = true := fits_le (by simp; omega)
  rw [mul_lst (c63 (by omega) (by omega)), Int.toNat_natCast, h1, mk_f, List.length_map, if_pos h4]
theorem fmt_z {ρ : Rho} {S : Store} {v : Int} (h : 2 ≤ v ∧ v ≤ MO) (hv : ∀ S, varD 3 ρ S = pur (.int v) S) : runE ρ (.fmt (.cons (.str "Z/") (.cons (.fv (.var 3)) .nil))) S = pur (.str (zs v)) S := by
  obtain ⟨h1, h2⟩ := big_ok h
  have e0 : Str.empty ++ ("Z/" : Str) = "Z/" := by decide +kernel
  have f1 : fits ("Z/" : Str).length = true := by decide +kernel
  have f2 : fits ("Z/" ++ its v : Str).length = true := (zs_tx h).fits (by decide)
  have lg : Nat.blt v.natAbs.log2 1920 = true := Nat.ble_eq_true_of_le h1
  simp only [re_fmt, rj_cons, re_str, bnd_pur, glue, e0, f1, if_true, re_fv, re_var, hv, fmtD, lg, lft_some, f2, rj_nil]
  rfl
theorem text_of_type {d x : D} {l : List Int} {f : Nat} (hd : isRow d = true) (hi : its' d = [x, .int (f : Nat)]) (hx : isRow x = true) (hxi : its' x = l.map .int) (h : ∀ v ∈ l, 2 ≤ v ∧ v ≤ MO) (hl : l.length ≤ 10) (hf : f ≤ 64) (S : Store) : fn_text_of_type [d] S = pur (.str (dueT l f)) S := by
  rw [fn_text_of_type, retF_fin]
  have e0 : startR nm_text_of_type [d] = [some d, none, none, none] := rfl
  simp only [ir_text_of_type, e0]
  have hits := row_its hd S
  rw [hi] at hits
  refine st_nx (ρ' := [some d, some x, some (.int (f : Nat)), none]) (S' := S) (by simp [setT, tgM, hits, sets]) ?_
  have hsq := row_seq hx S
  rw [hxi] at hsq
  have l1 := lc_e (own := [("one", 3)]) (t := .nm 3) (it := .seq (.var 1)) (cs := .no) (elt := .fmt (.cons (.str "Z/") (.cons (.fv (.var 3)) .nil))) (ρ := [some d, some x, some (.int (f : Nat)), none]) (S := S) l .int (fun v => .str (zs v)) (w := ⟨l.map .int, fun _ => true⟩) (by simp [hsq]) rfl rfl (by omega) fun v hv => ⟨_, rfl, rfl, fmt_z (h v hv) fun _ => rfl⟩
  have l2 : (l.map fun v => D.str (zs v)) = (l.map zs).map .str := by simp [List.map_map]
  rw [l2] at l1
  have ad := add_w (S := S) (A := l.map zs) (B := List.replicate f ("Z" : Str)) (by simp; omega)
  have e1 : l.map zs ++ List.replicate f ("Z" : Str) = prs l f := rfl
  rw [e1] at ad
  have jn := joined (S := S) (l := prs l f) (g := .str) (f := id) (d := .lst ((prs l f).map .str)) (y := " + ") (e := "0") (n := 64) (k := 100) rfl rfl (fun _ _ => rfl) (prs_tx h) (tx_lit " + " (by decide +kernel)) (by rw [prs_len]; omega) (by rw [prs_len]; omega)
  rw [List.map_id] at jn
  have jn' : fn_joined [.lst ((prs l f).map .str), .str " + ", .str "0"] S = pur (.str (dueT l f)) S := by
    rw [jn]
    unfold dueT
    by_cases c : prs l f = []
    · rw [if_pos c]
    · rw [if_neg c]
  clear jn
  refine st_rt (d := .str (dueT l f)) (S' := S) ?_ (by simp)
  have m1 := mulZ hf S
  have r1 : runE [some d, some x, some (.int (f : Nat)), none] (.bin false .Mult (.lst false (.cons (.str "Z") .nil)) (.var 2)) S = pur (.lst ((List.replicate f ("Z" : Str)).map .str)) S := by
    rw [re_bin, re_lstF, res_cons, re_str, bnd_pur, res_nil, bnd_pur, bnd_pur, lst_1, bnd_pur, re_var, var_s, var_s, var_0, bnd_pur, bin_mul, m1, lft_some]
  have r2 : runE [some d, some x, some (.int (f : Nat)), none] (.bin false .Add (.lc false [("one", 3)] (.nm 3) (.seq (.var 1)) .no (.fmt (.cons (.str "Z/") (.cons (.fv (.var 3)) .nil)))) (.bin false .Mult (.lst false (.cons (.str "Z") .nil)) (.var 2))) S = pur (.lst ((prs l f).map .str)) S := by
    rw [re_bin, l1, bnd_pur, r1, bnd_pur, bin_add, ad, lft_some]
  rw [rs_ret, re_call, res_cons, r2, bnd_pur, res_cons, re_str, bnd_pur, res_cons, re_str, bnd_pur, res_nil, bnd_pur, bnd_pur, bnd_pur, bnd_pur, if_pos (by rfl), jn', bnd_pur]
theorem type_text_ok {d x : D} {l : List Int} {f : Nat} (hp : pl2 d = true) (hd : isRow d = true) (hi : its' d = [x, .int (f : Nat)]) (hx : isRow x = true) (hxi : its' x = l.map .int) (h : okQ 1 l = true) (hl : l.length ≤ 10) (hf : f ≤ 64) (S : Store) : fn_type_text [d] S = pur (.str (dueT l f)) S := by
  have ht := is_type hp S
  have hb : typeB d = true := by
    have hf' : (0 : Int) ≤ (f : Nat) ∧ ((f : Nat) : Int) ≤ 64 := by omega
    simp [typeB, hd, hi, fsR, sdR, hx, hxi, inR, okT_map, h]
    omega
  have tt := text_of_type hd hi hx hxi (okQ_mem h) hl hf S
  rw [fn_type_text, retF_fin]
  have e0 : startR nm_type_text [d] = [some d] := rfl
  simp only [ir_type_text, e0]
  refine st_nx (ρ' := [some d]) (S' := S) (if_f (S' := S) (by simp [ht, hb]) rfl) ?_
  exact st_rt (d := .str (dueT l f)) (S' := S) (by simp [tt]) (by simp)
/-! ### wrong types -/
def badL (l : List Int) (last : Int) (f : Nat) : List D :=
  [.tup [.tup (l.map .int), .int 65], .tup [.tup (l.map .int), .int (-1)], .tup [.tup (l.map .int), .bl true], .tup [.tup (l.map .int), .str "1"], .tup [.tup (l.map .int), .non], .tup [.tup (l.map .int)], .tup [.tup (l.map .int), .int (f : Nat), .int 0], .tup (l.map .int), .int 5, .non]
  ++ [.tup [.tup ([.int 1] ++ l.map .int), .int (f : Nat)], .tup [.tup ([.int 0] ++ l.map .int), .int (f : Nat)], if 0 < l.length then .tup [.tup (l.map .int ++ [.int (last + 1)]), .int (f : Nat)] else .tup [.tup [.int 3, .int 4], .int 0]]
  ++ [.tup [.tup [.int 4, .int 2], .int 1], .tup [.tup [.int 2, .int 3], .int 0], .tup [.tup [.int (-2)], .int 0], .tup [.tup [.bl true], .int 0], .tup [.tup [.str "2"], .int 0], .tup [.int 2, .int 0], .tup [.str "", .int 0], .str "Z/2", .tup [.tup (l.map .int), .tup (l.map .int)]]
theorem bad_ok {l : List Int} {last : Int} {f : Nat} (h : okQ 1 l = true) (hd : endI 1 l ∣ last) : ∀ d ∈ badL l last f, pl2 d = true ∧ typeB d = false := by
  have hl : (l.map D.int).all pl = true := by
    rw [List.all_map, List.all_eq_true]
    intro v _
    rfl
  have hl2 : (l.map D.int).all (fun p => pl p && (its' p).all pl) = true := by
    rw [List.all_map, List.all_eq_true]
    intro v _
    rfl
  have hs : isRow (fsR (.tup (l.map .int))) = false := by cases l <;> rfl
  have hlast : okQ 1 l = true → l ≠ [] → okQ 1 (l ++ [last + 1]) = false := by
    intro _ hne
    rw [okQ_snoc, h, Bool.true_and]
    have e2 := (endI_pos h (by decide)).2 hne
    obtain ⟨c, hc⟩ := hd
    have : (last + 1).fmod (endI 1 l) ≠ 0 := by
      rw [Int.fmod_eq_emod_of_nonneg _ (by omega), hc, Int.mul_add_emod_self_left, Int.emod_eq_of_lt (by decide) (by omega)]
      decide
    simp [this]
  unfold badL
  simp only [List.forall_mem_append, List.forall_mem_cons]
  have p1 : ∀ x : D, pl x = true → (its' x).all pl = true → pl2 (.tup [.tup (l.map .int), x]) = true := by
    intro x a b
    have e : pl2 (.tup [.tup (l.map .int), x]) = ((pl (.tup (l.map .int)) && (l.map D.int).all pl) && ((pl x && (its' x).all pl) && true)) := rfl
    rw [e, hl, a, b]
    rfl
  have p2 : ∀ i : Int, pl2 (.tup [.tup ([.int i] ++ l.map .int), .int (f : Nat)]) = true := by
    intro i
    simp [pl2, pl, its', List.all_map]
  refine ⟨⟨⟨⟨p1 _ rfl rfl, by simp [typeB, sdR, its', inR]⟩, ⟨p1 _ rfl rfl, by simp [typeB, sdR, its', inR]⟩, ⟨p1 _ rfl rfl, by simp [typeB, sdR, its', inR]⟩, ⟨p1 _ rfl rfl, by simp [typeB, sdR, its', inR]⟩, ⟨p1 _ rfl rfl, by simp [typeB, sdR, its', inR]⟩, ⟨by simp [pl2, pl, its', List.all_map], by simp [typeB, its']⟩, ⟨by simp [pl2, pl, its', List.all_map], by simp [typeB, its']⟩, ⟨by simp [pl2, pl, its', List.all_map], by simp only [typeB, hs, Bool.false_and, Bool.and_false]⟩, ⟨rfl, rfl⟩, ⟨rfl, rfl⟩, by simp⟩,
    ⟨p2 1, by simp [typeB, its', fsR, okT, inR]⟩, ⟨p2 0, by simp [typeB, its', fsR, okT, inR]⟩, ?_, by simp⟩, ⟨by decide +kernel, by decide +kernel⟩, ⟨by decide +kernel, by decide +kernel⟩, ⟨by decide +kernel, by decide +kernel⟩, ⟨by decide +kernel, by decide +kernel⟩, ⟨by decide +kernel, by decide +kernel⟩, ⟨by decide +kernel, by decide +kernel⟩, ⟨by decide +kernel, by decide +kernel⟩, ⟨by decide +kernel, by decide +kernel⟩, ⟨p1 _ rfl hl, by simp [typeB, sdR, its', inR]⟩, by simp⟩
  by_cases c : 0 < l.length
  · rw [if_pos c]
    have := hlast h (fun z => by rw [z] at c; simp at c)
    refine ⟨by simp [pl2, pl, its', List.all_map], ?_⟩
    have e : l.map D.int ++ [.int (last + 1)] = (l ++ [last + 1]).map .int := by simp
    have e1 : its' (fsR (.tup [.tup (l.map D.int ++ [.int (last + 1)]), .int (f : Nat)])) = (l ++ [last + 1]).map .int := by rw [e]; rfl
    simp only [typeB, e1, okT_map, this, Bool.and_false]
  · rw [if_neg c]
    exact ⟨by decide +kernel, by decide +kernel⟩
end Z


set_option Elab.async false
set_option linter.all false
set_option maxRecDepth 100000
set_option maxHeartbeats 4000000
namespace Z
open PySem PySem.Spec PyProof.Rows L2
/-! ## the law about types -/
def ordB : ISs := (.cons (.expr (.meth .append (.var 1) (.var 2)))
  (.cons (.asg (.nm 2) (.bin false .Mult (.var 2) (.ix (.tup (.cons (.int 1) (.cons (.int 2) (.cons (.int 3) (.cons (.int 1) (.cons (.int 10) .nil)))))) (.call "_law_draw" 2 fn__law_draw (.cons (.var 0) (.cons (.int 5) .nil))))))
  .nil))
structure OrdI (l : List Int) (last : Int) (k : Nat) : Prop where
  ok : okQ 1 l = true
  dv : endI 1 l ∣ last
  two : 2 ≤ last
  hi : last ≤ 1000000000000000000000 * 10 ^ k
  len : l.length = k
theorem ord_one {o : O} (ho : Src o) {l : List Int} {last : Int} {k : Nat} (h : OrdI l last k) (hk : k < 5) (x3 x4 x5 x6 x7 x8 x9 x10 x11 : Option D) :
    ∃ o' last', runB ordB [some (.ptr 0), some (.ptr 1), some (.int last), x3, x4, x5, x6, x7, x8, x9, x10, x11] [o, .lst (l.map .int)] = pur (.nx [some (.ptr 0), some (.ptr 1), some (.int last'), x3, x4, x5, x6, x7, x8, x9, x10, x11]) [o', .lst ((l ++ [last]).map .int)] ∧ Src o' ∧ OrdI (l ++ [last]) last' (k + 1) := by
  obtain ⟨v, o1, e1, h1, v0, v1⟩ := draw_spec ho (L := [.lst ((l ++ [last]).map .int)]) (m := 5) (by decide) (by decide)
  obtain ⟨x, hx, e0⟩ := pick_tup (l := [.int 1, .int 2, .int 3, .int 1, .int 10]) v0 (by simpa using v1)
  have hm : ∃ f : Int, x = .int f ∧ 1 ≤ f ∧ f ≤ 10 := by
    simp only [List.mem_cons, List.not_mem_nil, or_false] at hx
    rcases hx with rfl | rfl | rfl | rfl | rfl <;> exact ⟨_, rfl, by decide, by decide⟩
  obtain ⟨f, rfl, f1, f2⟩ := hm
  have hl := h.len
  have h2 := h.two
  have hh := h.hi
  have ca := ck_app (S := [o, .lst (l.map .int)]) (k := 1) (ds := l.map .int) rfl
  have ap := app_ptr (S := [o, .lst (l.map .int)]) (k := 1) (ds := l.map .int) (y := .int last) rfl (by rw [List.length_map]; omega)
  have mu : mulOk last f = true := mul_lit last (by omega)
  have p10 : ∀ k : Nat, k < 5 → (1000000000000000000000 : Int) * 10 ^ k ≤ MO ∧ (1000000000000000000000 : Int) * 10 ^ (k + 1) = 10 * (1000000000000000000000 * 10 ^ k) := by
    intro k hk
    have : k = 0 ∨ k = 1 ∨ k = 2 ∨ k = 3 ∨ k = 4 := by omega
    rcases this with rfl | rfl | rfl | rfl | rfl <;> exact ⟨by decide, by decide⟩
  obtain ⟨p1, p2⟩ := p10 k hk
  refine ⟨o1, last * f, ?_, h1, ⟨?_, ?_, ?_, ?_, by simp [hl]⟩⟩
  · unfold ordB
    rw [rb_nx (ρ' := [some (.ptr 0), some (.ptr 1), some (.int last), x3, x4, x5, x6, x7, x8, x9, x10, x11]) (S' := [o, .lst ((l ++ [last]).map .int)]) (by
      rw [rs_expr, re_meth]
      simp only [re_var, var_s, var_0, bnd_pur, ca, if_true, sm_app, ap, lft_some]
      simp) rfl]
    rw [rb_nx (ρ' := [some (.ptr 0), some (.ptr 1), some (.int (last * f)), x3, x4, x5, x6, x7, x8, x9, x10, x11]) (S' := [o1, .lst ((l ++ [last]).map .int)]) (by
      have em : mulD false (.int last) (.int f) [o1, .lst ((l ++ [last]).map .int)] = some (.int (last * f), [o1, .lst ((l ++ [last]).map .int)]) := by simp [mulD, mu]
      have et : runE [some (.ptr 0), some (.ptr 1), some (.int last), x3, x4, x5, x6, x7, x8, x9, x10, x11] (.tup (.cons (.int 1) (.cons (.int 2) (.cons (.int 3) (.cons (.int 1) (.cons (.int 10) .nil)))))) [o, .lst ((l ++ [last]).map .int)] = pur (.tup [.int 1, .int 2, .int 3, .int 1, .int 10]) [o, .lst ((l ++ [last]).map .int)] := by simp [fits]
      rw [rs_asg, re_bin, re_var, var_s, var_s, var_0, bnd_pur, re_ix, et, bnd_pur, re_call, res_cons, re_var, var_0, bnd_pur, res_cons, re_int, bnd_pur, res_nil, bnd_pur, bnd_pur, bnd_pur, if_pos (by rfl), e1, bnd_pur, e0, bnd_pur, bin_mul, em, lft_some]
      rfl) rfl, rb_nil]
  · rw [okQ_snoc, h.ok, Bool.true_and]
    have e1 := (endI_pos h.ok (by decide)).1
    have : last.fmod (endI 1 l) = 0 := by
      rw [Int.fmod_eq_emod_of_nonneg _ (by omega)]
      exact Int.emod_eq_zero_of_dvd h.dv
    have hMO : 2 ≤ last ∧ last ≤ MO := ⟨h2, Int.le_trans hh p1⟩
    rw [decide_eq_true hMO, decide_eq_true this]
    rfl
  · rw [endI_snoc]
    exact Int.dvd_mul_right last f
  · have := Int.mul_le_mul h2 f1 (by decide) (by omega : (0 : Int) ≤ last)
    omega
  · rw [p2]
    have := Int.mul_le_mul hh f2 (by omega) (by omega)
    omega
theorem eq_ptr {S : Store} {k : Nat} {l : List Int} (h : S[k]? = some (.lst (l.map .int))) : eqO (.lst (l.map .int)) (.ptr k) S = some true := by
  refine eqO_py (pyD_ints l) ?_ (sh_ints l)
  simp only [pyD, h, pyFl]
  rw [pyDs_map fun x _ => (by simp [pyD] : pyD S 3 (.int x) = some (.int x))]
  rfl
theorem bad_len {l : List Int} {last : Int} {f : Nat} : (badL l last f).length = 22 := by simp [badL]
end Z


set_option Elab.async false
set_option linter.all false
set_option maxRecDepth 100000
set_option maxHeartbeats 4000000
namespace Z
open PySem PySem.Spec PyProof.Rows L2
def noneB : ISs := (.cons (.asg (.nm 11) (.ix (.var 9) (.call "_law_draw" 2 fn__law_draw (.cons (.var 0) (.cons (.bi .len (.cons (.var 9) .nil)) .nil)))))
  (.cons (.ife (.not (.call "_law_raises" 3 fn__law_raises (.cons (.told (.call "type_text" 1 fn_type_text (.cons (.var 11) .nil))) (.cons (.str "Unfit") (.cons (.str "type") .nil))))) (.cons (.ret (.bl false))
  .nil) .nil)
  .nil))
theorem none_one {o : O} (ho : Src o) {L : Store} {B : List D} (hB : ∀ d ∈ B, pl2 d = true ∧ typeB d = false) (hl : B.length = 22) (x1 x2 x3 x4 x5 x6 x7 x8 x10 x11 : Option D) :
    ∃ o' y11, runB noneB [some (.ptr 0), x1, x2, x3, x4, x5, x6, x7, x8, some (.tup B), x10, x11] (o :: L) = pur (.nx [some (.ptr 0), x1, x2, x3, x4, x5, x6, x7, x8, some (.tup B), x10, y11]) (o' :: L) ∧ Src o' := by
  obtain ⟨v, o1, e1, h1, v0, v1⟩ := draw_spec ho (L := L) (m := 22) (by decide) (by decide)
  obtain ⟨x, hx, e0⟩ := pick_tup (l := B) v0 (by rw [hl]; exact v1)
  obtain ⟨b1, b2⟩ := hB x hx
  have tt := told_ex (type_text_no b1 b2 (o1 :: L)) (by decide +kernel)
  have rr := raises (S := o1 :: L) (c := "Unfit") (t := .str "type") (d := .str "type") (tx_lit "Unfit" (by decide +kernel)) rfl rfl (.str 8 _ (tx_of "type" _ (by decide +kernel)))
  have hlen : lenD [.tup B] (o :: L) = some (.int 22, o :: L) := by rw [len_tup, hl]; rfl
  refine ⟨o1, some x, ?_, h1⟩
  unfold noneB
  rw [rb_nx (ρ' := [some (.ptr 0), x1, x2, x3, x4, x5, x6, x7, x8, some (.tup B), x10, some x]) (S' := o1 :: L) (by
    simp only [rs_asg, re_ix, re_var, var_s, var_0, bnd_pur, re_call, res_cons, res_nil, re_bi, bi_len, hlen, lft_some, List.length_cons, List.length_nil, if_true, e1, e0]
    rfl) rfl]
  rw [rb_nx (ρ' := [some (.ptr 0), x1, x2, x3, x4, x5, x6, x7, x8, some (.tup B), x10, some x]) (S' := o1 :: L) (if_f (S' := o1 :: L) (by simp [tt, rr]) rfl) rfl, rb_nil]
theorem law_types {o : O} (ho : Src o) : ∃ o', fn__law_types [.ptr 0] [o] = pur (.bl true) [o'] ∧ Src o' := by
  obtain ⟨a, o1, e1, h1, a0, a1⟩ := draw_spec ho (L := [.lst []]) (m := 9) (by decide) (by decide)
  obtain ⟨b, o2, e2, h2, b0, b1⟩ := draw_spec h1 (L := [.lst []]) (m := 5) (by decide) (by decide)
  rw [fn__law_types, retF_fin]
  have es : startR nm__law_types [.ptr 0] = [some (.ptr 0), none, none, none, none, none, none, none, none, none, none, none] := rfl
  simp only [ir__law_types, es]
  obtain ⟨last0, hl0, hl1, hif⟩ : ∃ last0 : Int, 2 ≤ last0 ∧ last0 ≤ 1000000000000000000000 ∧ runS [some (.ptr 0), some (.ptr 1), some (.int (2 + a)), none, none, none, none, none, none, none, none, none] (.ife (.cmp .Eq (.call "_law_draw" 2 fn__law_draw (.cons (.var 0) (.cons (.int 5) .nil))) (.int 0)) (.cons (.asg (.nm 2) (.bin false .Add (.bin false .Mult (.var 2) (.bin false .Pow (.int 10) (.int 19))) (.int 6)))
  .nil) .nil) [o1, .lst []] = pur (.nx [some (.ptr 0), some (.ptr 1), some (.int last0), none, none, none, none, none, none, none, none, none]) [o2, .lst []] := by
    by_cases c : b = 0
    · refine ⟨(2 + a) * 10000000000000000000 + 6, by omega, by omega, if_t (S' := [o2, .lst []]) (by simp [e2, c]) ?_⟩
      have hp : powD (.int 10) (.int 19) [o2, .lst []] = some (.int 10000000000000000000, [o2, .lst []]) := by
        simp only [powD]
        rw [if_pos (by decide)]
        rfl
      have mu : mulOk (2 + a) 10000000000000000000 = true := mul_lit _ (by decide)
      have em : mulD false (.int (2 + a)) (.int 10000000000000000000) [o2, .lst []] = some (.int ((2 + a) * 10000000000000000000), [o2, .lst []]) := by simp only [mulD, mu, if_true]
      rw [rb_nx (ρ' := [some (.ptr 0), some (.ptr 1), some (.int ((2 + a) * 10000000000000000000 + 6)), none, none, none, none, none, none, none, none, none]) (S' := [o2, .lst []]) (by
        rw [rs_asg, re_bin, re_bin, re_var, var_s, var_s, var_0, bnd_pur, re_bin, re_int, bnd_pur, re_int, bnd_pur, bin_pow, hp, lft_some, bnd_pur, bin_mul, em, lft_some, bnd_pur, re_int, bnd_pur, bin_add, add_int, lft_some]
        rfl) rfl, rb_nil]
    · exact ⟨2 + a, by omega, by omega, if_f (S' := [o2, .lst []]) (by simp [e2, c]) rfl⟩
  obtain ⟨t, o3, e3, h3, t0, t1⟩ := draw_spec h2 (L := [.lst []]) (m := 6) (by decide) (by decide)
  have rn := rng_small (ρ := [some (.ptr 0), some (.ptr 1), some (.int last0), none, none, none, none, none, none, none, none, none]) (e := .call "_law_draw" 2 fn__law_draw (.cons (.var 0) (.cons (.int 6) .nil))) (v := t) (S := [o2, .lst []]) (S' := [o3, .lst []]) (by simp [e3]) (by omega) (by omega)
  obtain ⟨ρ', S', k1, k2⟩ := for_inv (stay := fun _ => true) (tg := tgM (.nm 3)) (body := fun ρ' S' => runB ordB ρ' S') (fun i : Nat => .int (i : Nat)) (fun k ρ S => ∃ l last o' x3, ρ = [some (.ptr 0), some (.ptr 1), some (.int last), x3, none, none, none, none, none, none, none, none] ∧ S = [o', .lst (l.map .int)] ∧ Src o' ∧ OrdI l last k) 5 (List.range' 0 t.toNat) 0 [some (.ptr 0), some (.ptr 1), some (.int last0), none, none, none, none, none, none, none, none, none] [o3, .lst []]
    (by rw [List.length_range']; omega) ⟨[], last0, o3, none, rfl, rfl, h3, ⟨rfl, Int.one_dvd _, hl0, by omega, rfl⟩⟩ (fun _ _ _ _ => rfl) (by
      rintro i hi k ρ S hk ⟨l, last, o', x3, rfl, rfl, s', hI⟩
      obtain ⟨o5, last', c1, c2, c3⟩ := ord_one s' hI hk (some (.int (i : Nat))) none none none none none none none none
      exact ⟨_, _, _, rfl, c1, _, _, _, _, rfl, rfl, c2, c3⟩)
  obtain ⟨l, last, o4, x3, rfl, rfl, h4, hI⟩ := k2
  have hll : l.length ≤ 5 := by
    have := hI.len
    rw [List.length_range'] at this
    omega
  have hmem := okQ_mem hI.ok
  obtain ⟨c, o5, e5, h5, c0, c1⟩ := draw_spec h4 (L := [.lst (l.map .int)]) (m := 6) (by decide) (by decide)
  obtain ⟨x, hx, e0⟩ := pick_tup (l := [.int 0, .int 1, .int 2, .int 64, .int 0, .int 3]) c0 (by simpa using c1)
  have hm : ∃ f : Nat, x = .int (f : Nat) ∧ f ≤ 64 := by
    simp only [List.mem_cons, List.not_mem_nil, or_false] at hx
    rcases hx with rfl | rfl | rfl | rfl | rfl | rfl
    · exact ⟨0, rfl, by decide⟩
    · exact ⟨1, rfl, by decide⟩
    · exact ⟨2, rfl, by decide⟩
    · exact ⟨64, rfl, by decide⟩
    · exact ⟨0, rfl, by decide⟩
    · exact ⟨3, rfl, by decide⟩
  obtain ⟨f, rfl, hf⟩ := hm
  have hst : stayD 1 (l.map .int) [o5, .lst (l.map .int)] = true := by simp [stayD, eqDs_refl]
  -- the parts
  have l1 := lc_e (own := [("k", 3)]) (t := .nm 3) (it := .seq (.var 1)) (cs := .no) (elt := .bin false .Add (.str "Z/") (.bi .str (.cons (.var 3) .nil))) (ρ := [some (.ptr 0), some (.ptr 1), some (.int last), x3, some (.int (f : Nat)), none, none, none, none, none, none, none]) (S := [o5, .lst (l.map .int)]) l .int (fun v => .str (zs v)) (w := ⟨l.map .int, stayD 1 (l.map .int)⟩) (by simp [seqW]) rfl hst (by omega) fun v hv => ⟨_, rfl, rfl, by
    obtain ⟨g1, g2⟩ := big_ok (hmem v hv)
    have ad := add_tx (m := false) (S := [o5, .lst (l.map .int)]) (tx_of "Z/" 2 (by decide +kernel)) g2 (by decide)
    have sv := str_int g1 [o5, .lst (l.map .int)]
    rw [re_bin, re_str, bnd_pur, re_bi, res_cons]
    simp only [re_var, wipeR, List.map_cons, List.map_nil, List.set, var_s, var_0, bnd_pur, res_nil, bi_str, sv, lft_some, bin_add, ad]
    rfl⟩
  have l2 : (l.map fun v => D.str (zs v)) = (l.map zs).map .str := by simp [List.map_map]
  rw [l2] at l1
  have ad := add_w (S := [o5, .lst (l.map .int)]) (A := l.map zs) (B := List.replicate f ("Z" : Str)) (by simp; omega)
  have e1' : l.map zs ++ List.replicate f ("Z" : Str) = prs l f := rfl
  rw [e1'] at ad
  have m1 := mulZ hf [o5, .lst (l.map .int)]
  have hpl : (prs l f).length = l.length + f := prs_len l f
  have jn := join_tx (S := [o5, .lst (l.map .int)]) (y := " + ") (x := .lst ((prs l f).map .str)) (l := prs l f) (n := 64) (k := 100) rfl (prs_tx hmem) (tx_lit " + " (by decide +kernel)) (by omega)
  obtain ⟨u, o6, e6, h6, u0, u1⟩ := draw_spec h5 (L := [.lst (l.map .int)]) (m := 2) (by decide) (by decide)
  have tup1 : ∀ o : O, tupleD [.ptr 1] [o, .lst (l.map .int)] = some (.tup (l.map .int), [o, .lst (l.map .int)]) := fun o => by simp [tupleD, itsD]
  obtain ⟨d, y, hd, hi, hy, hyi, hp, hix0, hix1, hcp, hif2⟩ : ∃ d y, isRow d = true ∧ its' d = [y, .int (f : Nat)] ∧ isRow y = true ∧ its' y = l.map .int ∧ pl2 d = true ∧ (∀ S, ixD d (.int 0) S = pur y S) ∧ (∀ S, ixD d (.int 1) S = pur (.int (f : Nat)) S) ∧
      (∀ S, seqW y S = some ⟨l.map .int, fun _ => true⟩) ∧
      runS [some (.ptr 0), some (.ptr 1), some (.int last), x3, some (.int (f : Nat)), some (.lst ((prs l f).map .str)), some (.str (dueT l f)), some (.tup [.tup (l.map .int), .int (f : Nat)]), none, none, none, none] (.ife (.cmp .Eq (.call "_law_draw" 2 fn__law_draw (.cons (.var 0) (.cons (.int 2) .nil))) (.int 0)) (.cons (.asg (.nm 7) (.lst false (.cons (.lc false [("k", 3)] (.nm 3) (.seq (.var 1)) .no (.var 3)) (.cons (.var 4) .nil))))
  .nil) .nil) [o5, .lst (l.map .int)] = pur (.nx [some (.ptr 0), some (.ptr 1), some (.int last), x3, some (.int (f : Nat)), some (.lst ((prs l f).map .str)), some (.str (dueT l f)), some d, none, none, none, none]) [o6, .lst (l.map .int)] := by
    have hpl' : (l.map D.int).all pl = true := by
      rw [List.all_map, List.all_eq_true]
      intro v _
      rfl
    by_cases cu : u = 0
    · refine ⟨.lst [.lst (l.map .int), .int (f : Nat)], .lst (l.map .int), rfl, rfl, rfl, rfl, ?_, fun S => ix_lst (k := 0) rfl, fun S => ix_lst (k := 1) rfl, fun S => rfl, if_t (S' := [o6, .lst (l.map .int)]) (by simp [e6, cu]) ?_⟩
      · have e : pl2 (.lst [.lst (l.map .int), .int (f : Nat)]) = ((pl (.lst (l.map .int)) && (l.map D.int).all pl) && true) := rfl
        rw [e, hpl']
        rfl
      · have l3 := lc_e (own := [("k", 3)]) (t := .nm 3) (it := .seq (.var 1)) (cs := .no) (elt := .var 3) (ρ := [some (.ptr 0), some (.ptr 1), some (.int last), x3, some (.int (f : Nat)), some (.lst ((prs l f).map .str)), some (.str (dueT l f)), some (.tup [.tup (l.map .int), .int (f : Nat)]), none, none, none, none]) (S := [o6, .lst (l.map .int)]) l .int .int (w := ⟨l.map .int, stayD 1 (l.map .int)⟩) (by simp [seqW]) rfl (by simp [stayD, eqDs_refl]) (by omega) fun v hv => ⟨_, rfl, rfl, rfl⟩
        rw [rb_nx (ρ' := [some (.ptr 0), some (.ptr 1), some (.int last), x3, some (.int (f : Nat)), some (.lst ((prs l f).map .str)), some (.str (dueT l f)), some (.lst [.lst (l.map .int), .int (f : Nat)]), none, none, none, none]) (S' := [o6, .lst (l.map .int)]) (by
          rw [rs_asg, re_lstF, res_cons, l3, bnd_pur, res_cons, re_var, var_s, var_s, var_s, var_s, var_0, bnd_pur, res_nil, bnd_pur, bnd_pur, bnd_pur, lst_2, bnd_pur]
          rfl) rfl, rb_nil]
    · refine ⟨.tup [.tup (l.map .int), .int (f : Nat)], .tup (l.map .int), rfl, rfl, rfl, rfl, ?_, fun S => ix_tup (k := 0) rfl, fun S => ix_tup (k := 1) rfl, fun S => rfl, if_f (S' := [o6, .lst (l.map .int)]) (by simp [e6, cu]) rfl⟩
      have e : pl2 (.tup [.tup (l.map .int), .int (f : Nat)]) = ((pl (.tup (l.map .int)) && (l.map D.int).all pl) && true) := rfl
      rw [e, hpl']
      rfl
  have tt := type_text_ok hp hd hi hy hyi hI.ok (by omega) hf [o6, .lst (l.map .int)]
  have gv := gives (S := [o6, .lst (l.map .int)]) (.str 8 (dueT l f) ((due_tx hmem (by omega) hf).mono (by decide)))
  have l4 := lc_e (own := [("k", 3)]) (t := .nm 3) (it := .seq (.ix (.var 7) (.int 0))) (cs := .no) (elt := .var 3) (ρ := [some (.ptr 0), some (.ptr 1), some (.int last), x3, some (.int (f : Nat)), some (.lst ((prs l f).map .str)), some (.str (dueT l f)), some d, none, none, none, none]) (S := [o6, .lst (l.map .int)]) l .int .int (w := ⟨l.map .int, fun _ => true⟩) (by simp [hix0, hcp]) rfl rfl (by omega) fun v hv => ⟨_, rfl, rfl, rfl⟩
  have eqp := eq_ptr (S := [o6, .lst (l.map .int)]) (k := 1) (l := l) rfl
  have hB := bad_ok (l := l) (last := last) (f := f) hI.ok hI.dv
  have lB := bad_len (l := l) (last := last) (f := f)
  have rn2 := rng_small (ρ := [some (.ptr 0), some (.ptr 1), some (.int last), x3, some (.int (f : Nat)), some (.lst ((prs l f).map .str)), some (.str (dueT l f)), some d, some (.tup (l.map .int)), some (.tup (badL l last f)), none, none]) (e := .int 3) (v := 3) (S := [o6, .lst (l.map .int)]) rfl (by decide) (by decide)
  obtain ⟨ρ2, S2, j1, j2⟩ := for_inv (stay := fun _ => true) (tg := tgM (.nm 10)) (body := fun ρ' S' => runB noneB ρ' S') (fun i : Nat => .int (i : Nat)) (fun k ρ S => ∃ o' x10 x11, ρ = [some (.ptr 0), some (.ptr 1), some (.int last), x3, some (.int (f : Nat)), some (.lst ((prs l f).map .str)), some (.str (dueT l f)), some d, some (.tup (l.map .int)), some (.tup (badL l last f)), x10, x11] ∧ S = [o', .lst (l.map .int)] ∧ Src o') 3 (List.range' 0 3) 0 [some (.ptr 0), some (.ptr 1), some (.int last), x3, some (.int (f : Nat)), some (.lst ((prs l f).map .str)), some (.str (dueT l f)), some d, some (.tup (l.map .int)), some (.tup (badL l last f)), none, none] [o6, .lst (l.map .int)]
    (by decide) ⟨o6, none, none, rfl, rfl, h6⟩ (fun _ _ _ _ => rfl) (by
      rintro i hi k ρ S hk ⟨o', x10, x11, rfl, rfl, s'⟩
      obtain ⟨o7, y11, q1, q2⟩ := none_one s' (L := [.lst (l.map .int)]) hB lB (some (.ptr 1)) (some (.int last)) x3 (some (.int (f : Nat))) (some (.lst ((prs l f).map .str))) (some (.str (dueT l f))) (some d) (some (.tup (l.map .int))) (some (.int (i : Nat))) x11
      exact ⟨_, _, _, rfl, q1, _, _, _, rfl, rfl, q2⟩)
  obtain ⟨o7, x10, x11, rfl, rfl, h7⟩ := j2
  refine ⟨o7, ?_, h7⟩
  refine st_nx (ρ' := [some (.ptr 0), some (.ptr 1), none, none, none, none, none, none, none, none, none, none]) (S' := [o, .lst []]) (by simp) ?_
  refine st_nx (ρ' := [some (.ptr 0), some (.ptr 1), some (.int (2 + a)), none, none, none, none, none, none, none, none, none]) (S' := [o1, .lst []]) (by simp [e1]) ?_
  refine st_nx hif ?_
  refine st_nx (loop_of (body := ordB) rn k1) ?_
  refine st_nx (ρ' := [some (.ptr 0), some (.ptr 1), some (.int last), x3, some (.int (f : Nat)), none, none, none, none, none, none, none]) (S' := [o5, .lst (l.map .int)]) (by
    have et : ∀ S, runE [some (.ptr 0), some (.ptr 1), some (.int last), x3, none, none, none, none, none, none, none, none] (.tup (.cons (.int 0) (.cons (.int 1) (.cons (.int 2) (.cons (.int 64) (.cons (.int 0) (.cons (.int 3) .nil))))))) S = pur (.tup [.int 0, .int 1, .int 2, .int 64, .int 0, .int 3]) S := fun S => by simp [fits]
    rw [rs_asg, re_ix, et, bnd_pur, re_call, res_cons, re_var, var_0, bnd_pur, res_cons, re_int, bnd_pur, res_nil, bnd_pur, bnd_pur, bnd_pur, if_pos (by rfl), e5, bnd_pur, e0, bnd_pur]
    rfl) ?_
  have r1 : runE [some (.ptr 0), some (.ptr 1), some (.int last), x3, some (.int (f : Nat)), none, none, none, none, none, none, none] (.bin false .Mult (.lst false (.cons (.str "Z") .nil)) (.var 4)) [o5, .lst (l.map .int)] = pur (.lst ((List.replicate f ("Z" : Str)).map .str)) [o5, .lst (l.map .int)] := by
    rw [re_bin, re_lstF, res_cons, re_str, bnd_pur, res_nil, bnd_pur, bnd_pur, lst_1, bnd_pur, re_var, var_s, var_s, var_s, var_s, var_0, bnd_pur, bin_mul, m1, lft_some]
  refine st_nx (ρ' := [some (.ptr 0), some (.ptr 1), some (.int last), x3, some (.int (f : Nat)), some (.lst ((prs l f).map .str)), none, none, none, none, none, none]) (S' := [o5, .lst (l.map .int)]) (by
    rw [rs_asg, re_bin, l1, bnd_pur, r1, bnd_pur, bin_add, ad, lft_some]
    rfl) ?_
  refine st_nx (ρ' := [some (.ptr 0), some (.ptr 1), some (.int last), x3, some (.int (f : Nat)), some (.lst ((prs l f).map .str)), some (.str (dueT l f)), none, none, none, none, none]) (S' := [o5, .lst (l.map .int)]) (by
    rw [rs_asg, re_ife]
    by_cases cp : prs l f = []
    · have ht : runT [some (.ptr 0), some (.ptr 1), some (.int last), x3, some (.int (f : Nat)), some (.lst ((prs l f).map .str)), none, none, none, none, none, none] (.cmp .Gt (.bi .len (.cons (.var 5) .nil)) (.int 0)) [o5, .lst (l.map .int)] = pur false [o5, .lst (l.map .int)] := by simp [cp]
      have hdu : dueT l f = "0" := by
        unfold dueT
        rw [if_pos cp]
      rw [ht, bnd_pur, hdu]
      rfl
    · have hpos : 0 < (prs l f).length := List.length_pos_iff.mpr cp
      have ht : runT [some (.ptr 0), some (.ptr 1), some (.int last), x3, some (.int (f : Nat)), some (.lst ((prs l f).map .str)), none, none, none, none, none, none] (.cmp .Gt (.bi .len (.cons (.var 5) .nil)) (.int 0)) [o5, .lst (l.map .int)] = pur true [o5, .lst (l.map .int)] := by
        simp
        omega
      have hdu : dueT l f = Txt.join " + " (prs l f) := by
        unfold dueT
        rw [if_neg cp]
      rw [ht, bnd_pur, if_pos rfl, re_meth, re_str, bnd_pur, ck_join, if_pos rfl, re_var, var_s, var_s, var_s, var_s, var_s, var_0, bnd_pur, sm_join, jn, hdu]
      rfl) ?_
  refine st_nx (ρ' := [some (.ptr 0), some (.ptr 1), some (.int last), x3, some (.int (f : Nat)), some (.lst ((prs l f).map .str)), some (.str (dueT l f)), some (.tup [.tup (l.map .int), .int (f : Nat)]), none, none, none, none]) (S' := [o5, .lst (l.map .int)]) (by simp [tup1, fits]) ?_
  refine st_nx hif2 ?_
  refine st_nx (ρ' := [some (.ptr 0), some (.ptr 1), some (.int last), x3, some (.int (f : Nat)), some (.lst ((prs l f).map .str)), some (.str (dueT l f)), some d, none, none, none, none]) (S' := [o6, .lst (l.map .int)]) (if_f (S' := [o6, .lst (l.map .int)]) (by simp [tt, gv]) rfl) ?_
  refine st_nx (ρ' := [some (.ptr 0), some (.ptr 1), some (.int last), x3, some (.int (f : Nat)), some (.lst ((prs l f).map .str)), some (.str (dueT l f)), some d, none, none, none, none]) (S' := [o6, .lst (l.map .int)]) (if_f (S' := [o6, .lst (l.map .int)]) (by simp [-re_lc, l4, eqp, hix1]) rfl) ?_
  refine st_nx (ρ' := [some (.ptr 0), some (.ptr 1), some (.int last), x3, some (.int (f : Nat)), some (.lst ((prs l f).map .str)), some (.str (dueT l f)), some d, some (.tup (l.map .int)), none, none, none]) (S' := [o6, .lst (l.map .int)]) (by simp [tup1]) ?_
  refine st_nx (ρ' := [some (.ptr 0), some (.ptr 1), some (.int last), x3, some (.int (f : Nat)), some (.lst ((prs l f).map .str)), some (.str (dueT l f)), some d, some (.tup (l.map .int)), some (.tup ((badL l last f).take 10)), none, none]) (S' := [o6, .lst (l.map .int)]) (by simp [fits, badL]) ?_
  have lp : lenD [.ptr 1] [o6, .lst (l.map .int)] = some (.int l.length, [o6, .lst (l.map .int)]) := by
    have := len_ptr (S := [o6, .lst (l.map .int)]) (k := 1) (ds := l.map .int) rfl
    rw [this, List.length_map]
  refine st_nx (ρ' := [some (.ptr 0), some (.ptr 1), some (.int last), x3, some (.int (f : Nat)), some (.lst ((prs l f).map .str)), some (.str (dueT l f)), some d, some (.tup (l.map .int)), some (.tup ((badL l last f).take 13)), none, none]) (S' := [o6, .lst (l.map .int)]) (by
    have f1 : fits (1 + l.length) = true := fits_le (by omega)
    have f2 : fits (l.length + 1) = true := fits_le (by omega)
    by_cases cl : 0 < l.length
    · simp [lp, cl, f1, f2, badL]
      simp [fits]
    · simp [lp, cl, f1, f2, badL]
      simp [fits]) ?_
  refine st_nx (ρ' := [some (.ptr 0), some (.ptr 1), some (.int last), x3, some (.int (f : Nat)), some (.lst ((prs l f).map .str)), some (.str (dueT l f)), some d, some (.tup (l.map .int)), some (.tup (badL l last f)), none, none]) (S' := [o6, .lst (l.map .int)]) (by
    simp [fits, badL]) ?_
  refine st_nx (loop_of (body := noneB) rn2 j1) ?_
  refine st_rt (d := .bl true) (S' := [o7, .lst (l.map .int)]) (by simp) ?_
  refine (fin_cut (n := 1) (d' := .bl true) ?_ (by simp [frzD]) (by simp)).trans ?_
  · simp [ok_src h7]
  · simp
end Z


set_option Elab.async false
set_option linter.all false
set_option maxRecDepth 100000
set_option maxHeartbeats 4000000
namespace Z
open PySem PySem.Spec PyProof.Rows L2
/-! ## the law -/
theorem law_begin {ns : List Int} (h : ns.length ≤ 63) : ∃ o, fn__law_begin [.scr ns] [] = pur (.ptr 0) [o] ∧ Src o := by
  have hc := cutA_len ns none (some 63)
  have hsl : slD false (.scr ns) none (some 63) [] = some (.lst ((cutA ns none (some 63)).map .int), []) := by
    simp only [slD, cutA_map, mk_f, List.length_map]
    rw [if_pos (fits_le (by omega))]
  have l1 := lc_e (own := [("cell", 1)]) (t := .nm 1) (it := .seq (.sl false (.var 0) .no (.yes (.int 63)))) (cs := .no) (elt := .bi .int (.cons (.var 1) .nil)) (ρ := [some (.scr ns), none]) (S := []) (cutA ns none (some 63)) .int .int (w := ⟨(cutA ns none (some 63)).map .int, fun _ => true⟩) (by simp [hsl]) rfl rfl (by omega) fun v hv => ⟨_, rfl, rfl, by simp [wipeR, intD]⟩
  have hln : lenD [.scr ns] [] = some (.int ns.length, []) := by simp [lenD, itsD]
  refine ⟨src (cutA ns none (some 63)) 0 0 (ns.length + 7), ?_, _, _, _, _, rfl, by decide⟩
  have es : startR nm__law_begin [.scr ns] = [some (.scr ns), none] := rfl
  have hb : runB ir__law_begin (startR nm__law_begin [.scr ns]) [] = pur (.rt (.ptr 0)) [src (cutA ns none (some 63)) 0 0 (ns.length + 7)] := by
    rw [es]
    unfold ir__law_begin
    rw [rb_cons, rs_ret, re_lstT, res_cons, l1, bnd_pur, res_cons, re_int, bnd_pur, res_cons, re_int, bnd_pur, res_cons, re_bin, re_bi, res_cons, re_var, var_0, bnd_pur, res_nil, bnd_pur, bnd_pur, bi_len, hln, lft_some, bnd_pur, re_int, bnd_pur, bin_add, add_int, lft_some, bnd_pur, res_nil, bnd_pur, bnd_pur, bnd_pur, bnd_pur, bnd_pur]
    simp [ptrD, fits, src]
  have e : fn__law_begin [.scr ns] [] = (match runB ir__law_begin (startR nm__law_begin [.scr ns]) [] with
    | some (.ok (.rt d), S1) => some (.ok d, S1)
    | some (.ok (.nx _), S1) => some (.ok .non, S1)
    | some (.err c d, S1) => some (.err c d, S1)
    | _ => none) := rfl
  rw [e, hb]
  rfl
theorem plain_law (ns : List Int) (h : ns.length ≤ 63) (hb : ∀ z ∈ ns, Builtin.Int.intBits z ≤ 1048576) : fn_law [.scr ns] [] = some (.ok (.bl true), []) := by
  obtain ⟨o, e, h0⟩ := law_begin h
  obtain ⟨o1, e1, h1⟩ := law_matrices h0
  obtain ⟨o2, e2, h2⟩ := law_vectors h1
  obtain ⟨o3, e3, h3⟩ := law_types h2
  have es : startR nm_law [.scr ns] = [some (.scr ns), none] := rfl
  rw [fn_law, retF_fin]
  simp only [ir_law, es]
  refine st_nx (ρ' := [some (.scr ns), some (.ptr 0)]) (S' := [o]) (by simp [e]) ?_
  refine st_nx (ρ' := [some (.scr ns), some (.ptr 0)]) (S' := [o2]) (if_f (S' := [o2]) (by simp [e1, e2]) rfl) ?_
  refine st_rt (d := .bl true) (S' := [o3]) (by simp [e3]) ?_
  exact fin_cut (n := 0) (d' := .bl true) (by simp) (by simp [frzD]) (by simp)
end Z


set_option Elab.async false
set_option linter.all false
set_option maxRecDepth 100000
set_option maxHeartbeats 400000
namespace Z
open PySem PySem.Spec PyProof.Rows L2
/-- the ground of this law -/
structure Gd (B : Bd) : Prop where
  fr : FreeOk B
  d__law_begin : DefAt B "_law_begin" (top 39) ["script"] false
  d__law_draw : DefAt B "_law_draw" (top 40) ["source", "many"] false
  d__law_same : DefAt B "_law_same" (top 41) ["told", "due"] false
  d__law_gives : DefAt B "_law_gives" (top 44) ["told", "due"] false
  d__law_raises : DefAt B "_law_raises" (top 43) ["told", "kind", "kept"] false
  d_joined : DefAt B "joined" (top 22) ["parts", "sign", "none"] false
  d_text_of_type : DefAt B "text_of_type" (top 35) ["its"] false
  d_is_row : DefAt B "is_row" (top 17) ["value"] false
  d_is_number : DefAt B "is_number" (top 15) ["value"] false
  d_is_from_to : DefAt B "is_from_to" (top 16) ["value", "least", "most"] false
  d_is_type : DefAt B "is_type" (top 36) ["value"] false
  d_type_text : DefAt B "type_text" (top 37) ["its"] false
  d__law_types : DefAt B "_law_types" (top 60) ["source"] true
  d__law_copy : DefAt B "_law_copy" (top 47) ["a"] false
  d__law_tuple : DefAt B "_law_tuple" (top 46) ["a"] false
  d__law_handed : DefAt B "_law_handed" (top 45) ["source", "a"] false
  d__law_bent : DefAt B "_law_bent" (top 55) ["source", "text"] false
  d__law_word : DefAt B "_law_word" (top 56) ["source"] false
  d__law_texts : DefAt B "_law_texts" (top 57) ["source", "rows"] false
  d__law_one : DefAt B "_law_one" (top 54) ["source"] false
  d__law_fits : DefAt B "_law_fits" (top 53) ["told", "due"] false
  d__law_number : DefAt B "_law_number" (top 48) ["word"] false
  d__law_numbers : DefAt B "_law_numbers" (top 49) ["words"] false
  d__law_is_wrong : DefAt B "_law_is_wrong" (top 50) ["words", "many"] false
  d__law_matrix_due : DefAt B "_law_matrix_due" (top 51) ["text"] false
  d_number_told : DefAt B "number_told" (top 27) ["word"] false
  d_row_told : DefAt B "row_told" (top 28) ["text", "sign"] false
  d_rows_told : DefAt B "rows_told" (top 30) ["lines", "sign"] false
  d_read_matrix : DefAt B "read_matrix" (top 31) ["text"] false
  d_is_vector : DefAt B "is_vector" (top 18) ["value"] false
  d_is_matrix : DefAt B "is_matrix" (top 19) ["value"] false
  d_checked_matrix : DefAt B "checked_matrix" (top 21) ["a"] false
  d_write_matrix : DefAt B "write_matrix" (top 29) ["a"] false
  d__law_matrices : DefAt B "_law_matrices" (top 58) ["source"] true
  d__law_vector_due : DefAt B "_law_vector_due" (top 52) ["text"] false
  d_read_vector : DefAt B "read_vector" (top 34) ["text"] false
  d_vector_text : DefAt B "vector_text" (top 32) ["v"] false
  d_checked_vector : DefAt B "checked_vector" (top 20) ["v"] false
  d_write_vector : DefAt B "write_vector" (top 33) ["v"] false
  d__law_vectors : DefAt B "_law_vectors" (top 59) ["source"] true
  d_law : DefAt B "law" (top 61) ["script"] false
  g_TYPE_PARTS : ∃ u v, B.mg "TYPE_PARTS" = some u ∧ RelV v u ∧ ∀ F A, IsD B F A (.int 2) v
  g_MOST_ORDER : ∃ u v, B.mg "MOST_ORDER" = some u ∧ RelV v u ∧ ∀ F A, IsD B F A (.int 1000000000000000000000000000000000000000000000000000000000000) v
  g_MOST_NUMBER : ∃ u v, B.mg "MOST_NUMBER" = some u ∧ RelV v u ∧ ∀ F A, IsD B F A (.int 1000000) v
  g_FIGURES : ∃ u v, B.mg "FIGURES" = some u ∧ RelV v u ∧ ∀ F A, IsD B F A (.int 7) v
  g_MOST_SIZE : ∃ u v, B.mg "MOST_SIZE" = some u ∧ RelV v u ∧ ∀ F A, IsD B F A (.int 8) v
  r_Unfit : ∀ k, RaiseOk B (k + 1) "Unfit"
  r_InvalidText : ∀ k, RaiseOk B (k + 1) "InvalidText"
  r_InvalidMatrix : ∀ k, RaiseOk B (k + 1) "InvalidMatrix"
  r_InvalidVector : ∀ k, RaiseOk B (k + 1) "InvalidVector"
  told : ToldOk B
theorem sc__law_begin : FnScope nm__law_begin ["script"] (defScope (top 39)) := C8.fnScope_by (by decide +kernel)
theorem ln__law_begin {B : Bd} (G : Gd B) : FnLink B 1 "_law_begin" 1 fn__law_begin := by
  obtain ⟨a, fd, F, hm, hb, hl⟩ := G.d__law_begin
  refine fn_irK (k := 0) (tl := false) G.fr nm__law_begin F sc__law_begin hm hb rfl hl ?_ mt__law_begin
  simp only [ir__law_begin, okB, okS, okE, okEs, okIO, okI, and_true, true_and, Nat.reduceSub, Nat.reduceLeDiff]
  repeat' (first | assumption | exact trivial | apply And.intro)
theorem sc__law_draw : FnScope nm__law_draw ["source", "many"] (defScope (top 40)) := C8.fnScope_by (by decide +kernel)
theorem ln__law_draw {B : Bd} (G : Gd B) : FnLink B 1 "_law_draw" 2 fn__law_draw := by
  obtain ⟨a, fd, F, hm, hb, hl⟩ := G.d__law_draw
  refine fn_ir (k := 0) (tl := false) G.fr nm__law_draw F sc__law_draw hm hb rfl hl ?_ mt__law_draw
  simp only [ir__law_draw, okB, okS, okE, okEs, okIO, okI, and_true, true_and, Nat.reduceSub, Nat.reduceLeDiff]
  repeat' (first | assumption | exact trivial | apply And.intro)
theorem sc__law_same : FnScope nm__law_same ["told", "due"] (defScope (top 41)) := C8.fnScope_by (by decide +kernel)
theorem ln__law_same {B : Bd} (G : Gd B) : ∀ m, FnLink B (0 + m) "_law_same" 2 (fn__law_same m)
  | 0 => by
    obtain ⟨a, fd, F, hm, hb, hl⟩ := G.d__law_same
    exact fn_none F hm hb rfl
  | m + 1 => by
    have ih := ln__law_same G m
    obtain ⟨a, fd, F, hm, hb, hl⟩ := G.d__law_same
    refine fn_ir (k := 0 + m) (tl := false) G.fr nm__law_same F sc__law_same hm hb rfl hl ?_ (mt__law_same _)
    simp only [ir__law_same, okB, okS, okE, okEs, okIO, okI, and_true, true_and, Nat.reduceSub, Nat.reduceLeDiff]
    repeat' (first | assumption | exact trivial | apply And.intro)
theorem sc__law_gives : FnScope nm__law_gives ["told", "due"] (defScope (top 44)) := C8.fnScope_by (by decide +kernel)
theorem ln__law_gives {B : Bd} (G : Gd B) : FnLink B 10 "_law_gives" 2 fn__law_gives := by
  have c__law_same : FnLink B (9) "_law_same" 2 (fn__law_same 9) := (ln__law_same G 9).mono (by omega)
  obtain ⟨a, fd, F, hm, hb, hl⟩ := G.d__law_gives
  refine fn_ir (k := 9) (tl := false) G.fr nm__law_gives F sc__law_gives hm hb rfl hl ?_ mt__law_gives
  simp only [ir__law_gives, okB, okS, okE, okEs, okIO, okI, and_true, true_and, Nat.reduceSub, Nat.reduceLeDiff]
  repeat' (first | assumption | exact trivial | apply And.intro)
theorem sc__law_raises : FnScope nm__law_raises ["told", "kind", "kept"] (defScope (top 43)) := C8.fnScope_by (by decide +kernel)
theorem ln__law_raises {B : Bd} (G : Gd B) : FnLink B 10 "_law_raises" 3 fn__law_raises := by
  have c__law_same : FnLink B (9) "_law_same" 2 (fn__law_same 9) := (ln__law_same G 9).mono (by omega)
  obtain ⟨a, fd, F, hm, hb, hl⟩ := G.d__law_raises
  refine fn_ir (k := 9) (tl := false) G.fr nm__law_raises F sc__law_raises hm hb rfl hl ?_ mt__law_raises
  simp only [ir__law_raises, okB, okS, okE, okEs, okIO, okI, and_true, true_and, Nat.reduceSub, Nat.reduceLeDiff]
  repeat' (first | assumption | exact trivial | apply And.intro)
theorem sc_joined : FnScope nm_joined ["parts", "sign", "none"] (defScope (top 22)) := C8.fnScope_by (by decide +kernel)
theorem ln_joined {B : Bd} (G : Gd B) : FnLink B 1 "joined" 3 fn_joined := by
  obtain ⟨a, fd, F, hm, hb, hl⟩ := G.d_joined
  refine fn_ir (k := 0) (tl := false) G.fr nm_joined F sc_joined hm hb rfl hl ?_ mt_joined
  simp only [ir_joined, okB, okS, okE, okEs, okIO, okI, and_true, true_and, Nat.reduceSub, Nat.reduceLeDiff]
  repeat' (first | assumption | exact trivial | apply And.intro)
theorem sc_text_of_type : FnScope nm_text_of_type ["its"] (defScope (top 35)) := C8.fnScope_by (by decide +kernel)
theorem ln_text_of_type {B : Bd} (G : Gd B) : FnLink B 2 "text_of_type" 1 fn_text_of_type := by
  have c_joined : FnLink B (1) "joined" 3 fn_joined := (ln_joined G).mono (by omega)
  obtain ⟨a, fd, F, hm, hb, hl⟩ := G.d_text_of_type
  refine fn_ir (k := 1) (tl := false) G.fr nm_text_of_type F sc_text_of_type hm hb rfl hl ?_ mt_text_of_type
  simp only [ir_text_of_type, okB, okS, okE, okEs, okIO, okI, and_true, true_and, Nat.reduceSub, Nat.reduceLeDiff]
  repeat' (first | assumption | exact trivial | apply And.intro)
theorem sc_is_row : FnScope nm_is_row ["value"] (defScope (top 17)) := C8.fnScope_by (by decide +kernel)
theorem ln_is_row {B : Bd} (G : Gd B) : FnLink B 1 "is_row" 1 fn_is_row := by
  obtain ⟨a, fd, F, hm, hb, hl⟩ := G.d_is_row
  refine fn_ir (k := 0) (tl := false) G.fr nm_is_row F sc_is_row hm hb rfl hl ?_ mt_is_row
  simp only [ir_is_row, okB, okS, okE, okEs, okIO, okI, and_true, true_and, Nat.reduceSub, Nat.reduceLeDiff]
  repeat' (first | assumption | exact trivial | apply And.intro)
theorem sc_is_number : FnScope nm_is_number ["value"] (defScope (top 15)) := C8.fnScope_by (by decide +kernel)
theorem ln_is_number {B : Bd} (G : Gd B) : FnLink B 1 "is_number" 1 fn_is_number := by
  obtain ⟨a, fd, F, hm, hb, hl⟩ := G.d_is_number
  refine fn_ir (k := 0) (tl := false) G.fr nm_is_number F sc_is_number hm hb rfl hl ?_ mt_is_number
  simp only [ir_is_number, okB, okS, okE, okEs, okIO, okI, and_true, true_and, Nat.reduceSub, Nat.reduceLeDiff]
  repeat' (first | assumption | exact trivial | apply And.intro)
theorem sc_is_from_to : FnScope nm_is_from_to ["value", "least", "most"] (defScope (top 16)) := C8.fnScope_by (by decide +kernel)
theorem ln_is_from_to {B : Bd} (G : Gd B) : FnLink B 2 "is_from_to" 3 fn_is_from_to := by
  have c_is_number : FnLink B (1) "is_number" 1 fn_is_number := (ln_is_number G).mono (by omega)
  obtain ⟨a, fd, F, hm, hb, hl⟩ := G.d_is_from_to
  refine fn_ir (k := 1) (tl := false) G.fr nm_is_from_to F sc_is_from_to hm hb rfl hl ?_ mt_is_from_to
  simp only [ir_is_from_to, okB, okS, okE, okEs, okIO, okI, and_true, true_and, Nat.reduceSub, Nat.reduceLeDiff]
  repeat' (first | assumption | exact trivial | apply And.intro)
theorem sc_is_type : FnScope nm_is_type ["value"] (defScope (top 36)) := C8.fnScope_by (by decide +kernel)
theorem ln_is_type {B : Bd} (G : Gd B) : FnLink B 3 "is_type" 1 fn_is_type := by
  have c_is_row : FnLink B (2) "is_row" 1 fn_is_row := (ln_is_row G).mono (by omega)
  have c_is_from_to : FnLink B (2) "is_from_to" 3 fn_is_from_to := (ln_is_from_to G).mono (by omega)
  have g_TYPE_PARTS := G.g_TYPE_PARTS
  have g_MOST_ORDER := G.g_MOST_ORDER
  obtain ⟨a, fd, F, hm, hb, hl⟩ := G.d_is_type
  refine fn_ir (k := 2) (tl := false) G.fr nm_is_type F sc_is_type hm hb rfl hl ?_ mt_is_type
  simp only [ir_is_type, okB, okS, okE, okEs, okIO, okI, and_true, true_and, Nat.reduceSub, Nat.reduceLeDiff]
  repeat' (first | assumption | exact trivial | apply And.intro)
theorem sc_type_text : FnScope nm_type_text ["its"] (defScope (top 37)) := C8.fnScope_by (by decide +kernel)
theorem ln_type_text {B : Bd} (G : Gd B) : FnLink B 4 "type_text" 1 fn_type_text := by
  have c_is_type : FnLink B (3) "is_type" 1 fn_is_type := (ln_is_type G).mono (by omega)
  have c_text_of_type : FnLink B (3) "text_of_type" 1 fn_text_of_type := (ln_text_of_type G).mono (by omega)
  have r_Unfit : RaiseOk B (3) "Unfit" := RaiseOk.at1 G.r_Unfit (by omega)
  obtain ⟨a, fd, F, hm, hb, hl⟩ := G.d_type_text
  refine fn_ir (k := 3) (tl := false) G.fr nm_type_text F sc_type_text hm hb rfl hl ?_ mt_type_text
  simp only [ir_type_text, okB, okS, okE, okEs, okIO, okI, and_true, true_and, Nat.reduceSub, Nat.reduceLeDiff]
  repeat' (first | assumption | exact trivial | apply And.intro)
theorem sc__law_types : FnScope nm__law_types ["source"] (defScope (top 60)) := C8.fnScope_by (by decide +kernel)
theorem ln__law_types {B : Bd} (G : Gd B) : FnLink B 11 "_law_types" 1 fn__law_types := by
  have c__law_draw : FnLink B (10) "_law_draw" 2 fn__law_draw := (ln__law_draw G).mono (by omega)
  have c__law_gives : FnLink B (10) "_law_gives" 2 fn__law_gives := (ln__law_gives G).mono (by omega)
  have c__law_raises : FnLink B (10) "_law_raises" 3 fn__law_raises := (ln__law_raises G).mono (by omega)
  have t_type_text : FnLink B (10 - 2) "type_text" 1 fn_type_text := (ln_type_text G).mono (by omega)
  have told := G.told
  simp only [Nat.reduceSub] at *
  obtain ⟨a, fd, F, hm, hb, hl⟩ := G.d__law_types
  refine fn_ir (k := 10) (tl := true) G.fr nm__law_types F sc__law_types hm hb rfl hl ?_ mt__law_types
  simp only [ir__law_types, okB, okS, okE, okEs, okIO, okI, and_true, true_and, Nat.reduceSub, Nat.reduceLeDiff]
  repeat' (first | assumption | exact trivial | apply And.intro)
theorem sc__law_copy : FnScope nm__law_copy ["a"] (defScope (top 47)) := C8.fnScope_by (by decide +kernel)
theorem ln__law_copy {B : Bd} (G : Gd B) : FnLink B 1 "_law_copy" 1 fn__law_copy := by
  obtain ⟨a, fd, F, hm, hb, hl⟩ := G.d__law_copy
  refine fn_ir (k := 0) (tl := false) G.fr nm__law_copy F sc__law_copy hm hb rfl hl ?_ mt__law_copy
  simp only [ir__law_copy, okB, okS, okE, okEs, okIO, okI, and_true, true_and, Nat.reduceSub, Nat.reduceLeDiff]
  repeat' (first | assumption | exact trivial | apply And.intro)
theorem sc__law_tuple : FnScope nm__law_tuple ["a"] (defScope (top 46)) := C8.fnScope_by (by decide +kernel)
theorem ln__law_tuple {B : Bd} (G : Gd B) : FnLink B 1 "_law_tuple" 1 fn__law_tuple := by
  obtain ⟨a, fd, F, hm, hb, hl⟩ := G.d__law_tuple
  refine fn_ir (k := 0) (tl := false) G.fr nm__law_tuple F sc__law_tuple hm hb rfl hl ?_ mt__law_tuple
  simp only [ir__law_tuple, okB, okS, okE, okEs, okIO, okI, and_true, true_and, Nat.reduceSub, Nat.reduceLeDiff]
  repeat' (first | assumption | exact trivial | apply And.intro)
theorem sc__law_handed : FnScope nm__law_handed ["source", "a"] (defScope (top 45)) := C8.fnScope_by (by decide +kernel)
theorem ln__law_handed {B : Bd} (G : Gd B) : FnLink B 2 "_law_handed" 2 fn__law_handed := by
  have c__law_draw : FnLink B (1) "_law_draw" 2 fn__law_draw := (ln__law_draw G).mono (by omega)
  have c__law_copy : FnLink B (1) "_law_copy" 1 fn__law_copy := (ln__law_copy G).mono (by omega)
  have c__law_tuple : FnLink B (1) "_law_tuple" 1 fn__law_tuple := (ln__law_tuple G).mono (by omega)
  obtain ⟨a, fd, F, hm, hb, hl⟩ := G.d__law_handed
  refine fn_ir (k := 1) (tl := false) G.fr nm__law_handed F sc__law_handed hm hb rfl hl ?_ mt__law_handed
  simp only [ir__law_handed, okB, okS, okE, okEs, okIO, okI, and_true, true_and, Nat.reduceSub, Nat.reduceLeDiff]
  repeat' (first | assumption | exact trivial | apply And.intro)
theorem sc__law_bent : FnScope nm__law_bent ["source", "text"] (defScope (top 55)) := C8.fnScope_by (by decide +kernel)
theorem ln__law_bent {B : Bd} (G : Gd B) : FnLink B 2 "_law_bent" 2 fn__law_bent := by
  have c__law_draw : FnLink B (1) "_law_draw" 2 fn__law_draw := (ln__law_draw G).mono (by omega)
  obtain ⟨a, fd, F, hm, hb, hl⟩ := G.d__law_bent
  refine fn_ir (k := 1) (tl := false) G.fr nm__law_bent F sc__law_bent hm hb rfl hl ?_ mt__law_bent
  simp only [ir__law_bent, okB, okS, okE, okEs, okIO, okI, and_true, true_and, Nat.reduceSub, Nat.reduceLeDiff]
  repeat' (first | assumption | exact trivial | apply And.intro)
theorem sc__law_word : FnScope nm__law_word ["source"] (defScope (top 56)) := C8.fnScope_by (by decide +kernel)
theorem ln__law_word {B : Bd} (G : Gd B) : FnLink B 2 "_law_word" 1 fn__law_word := by
  have c__law_draw : FnLink B (1) "_law_draw" 2 fn__law_draw := (ln__law_draw G).mono (by omega)
  obtain ⟨a, fd, F, hm, hb, hl⟩ := G.d__law_word
  refine fn_ir (k := 1) (tl := false) G.fr nm__law_word F sc__law_word hm hb rfl hl ?_ mt__law_word
  simp only [ir__law_word, okB, okS, okE, okEs, okIO, okI, and_true, true_and, Nat.reduceSub, Nat.reduceLeDiff]
  repeat' (first | assumption | exact trivial | apply And.intro)
theorem sc__law_texts : FnScope nm__law_texts ["source", "rows"] (defScope (top 57)) := C8.fnScope_by (by decide +kernel)
theorem ln__law_texts {B : Bd} (G : Gd B) : FnLink B 3 "_law_texts" 2 fn__law_texts := by
  have c__law_bent : FnLink B (2) "_law_bent" 2 fn__law_bent := (ln__law_bent G).mono (by omega)
  have c__law_draw : FnLink B (2) "_law_draw" 2 fn__law_draw := (ln__law_draw G).mono (by omega)
  have c__law_word : FnLink B (2) "_law_word" 1 fn__law_word := (ln__law_word G).mono (by omega)
  obtain ⟨a, fd, F, hm, hb, hl⟩ := G.d__law_texts
  refine fn_ir (k := 2) (tl := false) G.fr nm__law_texts F sc__law_texts hm hb rfl hl ?_ mt__law_texts
  simp only [ir__law_texts, okB, okS, okE, okEs, okIO, okI, and_true, true_and, Nat.reduceSub, Nat.reduceLeDiff]
  repeat' (first | assumption | exact trivial | apply And.intro)
theorem sc__law_one : FnScope nm__law_one ["source"] (defScope (top 54)) := C8.fnScope_by (by decide +kernel)
theorem ln__law_one {B : Bd} (G : Gd B) : FnLink B 2 "_law_one" 1 fn__law_one := by
  have c__law_draw : FnLink B (1) "_law_draw" 2 fn__law_draw := (ln__law_draw G).mono (by omega)
  obtain ⟨a, fd, F, hm, hb, hl⟩ := G.d__law_one
  refine fn_ir (k := 1) (tl := false) G.fr nm__law_one F sc__law_one hm hb rfl hl ?_ mt__law_one
  simp only [ir__law_one, okB, okS, okE, okEs, okIO, okI, and_true, true_and, Nat.reduceSub, Nat.reduceLeDiff]
  repeat' (first | assumption | exact trivial | apply And.intro)
theorem sc__law_fits : FnScope nm__law_fits ["told", "due"] (defScope (top 53)) := C8.fnScope_by (by decide +kernel)
theorem ln__law_fits {B : Bd} (G : Gd B) : FnLink B 11 "_law_fits" 2 fn__law_fits := by
  have c__law_gives : FnLink B (10) "_law_gives" 2 fn__law_gives := (ln__law_gives G).mono (by omega)
  have c__law_raises : FnLink B (10) "_law_raises" 3 fn__law_raises := (ln__law_raises G).mono (by omega)
  obtain ⟨a, fd, F, hm, hb, hl⟩ := G.d__law_fits
  refine fn_ir (k := 10) (tl := false) G.fr nm__law_fits F sc__law_fits hm hb rfl hl ?_ mt__law_fits
  simp only [ir__law_fits, okB, okS, okE, okEs, okIO, okI, and_true, true_and, Nat.reduceSub, Nat.reduceLeDiff]
  repeat' (first | assumption | exact trivial | apply And.intro)
theorem sc__law_number : FnScope nm__law_number ["word"] (defScope (top 48)) := C8.fnScope_by (by decide +kernel)
theorem ln__law_number {B : Bd} (G : Gd B) : FnLink B 1 "_law_number" 1 fn__law_number := by
  obtain ⟨a, fd, F, hm, hb, hl⟩ := G.d__law_number
  refine fn_ir (k := 0) (tl := false) G.fr nm__law_number F sc__law_number hm hb rfl hl ?_ mt__law_number
  simp only [ir__law_number, okB, okS, okE, okEs, okIO, okI, and_true, true_and, Nat.reduceSub, Nat.reduceLeDiff]
  repeat' (first | assumption | exact trivial | apply And.intro)
theorem sc__law_numbers : FnScope nm__law_numbers ["words"] (defScope (top 49)) := C8.fnScope_by (by decide +kernel)
theorem ln__law_numbers {B : Bd} (G : Gd B) : FnLink B 2 "_law_numbers" 1 fn__law_numbers := by
  have c__law_number : FnLink B (1) "_law_number" 1 fn__law_number := (ln__law_number G).mono (by omega)
  obtain ⟨a, fd, F, hm, hb, hl⟩ := G.d__law_numbers
  refine fn_ir (k := 1) (tl := false) G.fr nm__law_numbers F sc__law_numbers hm hb rfl hl ?_ mt__law_numbers
  simp only [ir__law_numbers, okB, okS, okE, okEs, okIO, okI, and_true, true_and, Nat.reduceSub, Nat.reduceLeDiff]
  repeat' (first | assumption | exact trivial | apply And.intro)
theorem sc__law_is_wrong : FnScope nm__law_is_wrong ["words", "many"] (defScope (top 50)) := C8.fnScope_by (by decide +kernel)
theorem ln__law_is_wrong {B : Bd} (G : Gd B) : FnLink B 3 "_law_is_wrong" 2 fn__law_is_wrong := by
  have c__law_numbers : FnLink B (2) "_law_numbers" 1 fn__law_numbers := (ln__law_numbers G).mono (by omega)
  obtain ⟨a, fd, F, hm, hb, hl⟩ := G.d__law_is_wrong
  refine fn_ir (k := 2) (tl := false) G.fr nm__law_is_wrong F sc__law_is_wrong hm hb rfl hl ?_ mt__law_is_wrong
  simp only [ir__law_is_wrong, okB, okS, okE, okEs, okIO, okI, and_true, true_and, Nat.reduceSub, Nat.reduceLeDiff]
  repeat' (first | assumption | exact trivial | apply And.intro)
theorem sc__law_matrix_due : FnScope nm__law_matrix_due ["text"] (defScope (top 51)) := C8.fnScope_by (by decide +kernel)
theorem ln__law_matrix_due {B : Bd} (G : Gd B) : FnLink B 4 "_law_matrix_due" 1 fn__law_matrix_due := by
  have c__law_is_wrong : FnLink B (3) "_law_is_wrong" 2 fn__law_is_wrong := (ln__law_is_wrong G).mono (by omega)
  have c__law_numbers : FnLink B (3) "_law_numbers" 1 fn__law_numbers := (ln__law_numbers G).mono (by omega)
  obtain ⟨a, fd, F, hm, hb, hl⟩ := G.d__law_matrix_due
  refine fn_ir (k := 3) (tl := false) G.fr nm__law_matrix_due F sc__law_matrix_due hm hb rfl hl ?_ mt__law_matrix_due
  simp only [ir__law_matrix_due, okB, okS, okE, okEs, okIO, okI, and_true, true_and, Nat.reduceSub, Nat.reduceLeDiff]
  repeat' (first | assumption | exact trivial | apply And.intro)
theorem sc_number_told : FnScope nm_number_told ["word"] (defScope (top 27)) := C8.fnScope_by (by decide +kernel)
theorem ln_number_told {B : Bd} (G : Gd B) : FnLink B 3 "number_told" 1 fn_number_told := by
  have c_is_from_to : FnLink B (2) "is_from_to" 3 fn_is_from_to := (ln_is_from_to G).mono (by omega)
  have g_MOST_NUMBER := G.g_MOST_NUMBER
  have g_FIGURES := G.g_FIGURES
  obtain ⟨a, fd, F, hm, hb, hl⟩ := G.d_number_told
  refine fn_ir (k := 2) (tl := false) G.fr nm_number_told F sc_number_told hm hb rfl hl ?_ mt_number_told
  simp only [ir_number_told, okB, okS, okE, okEs, okIO, okI, and_true, true_and, Nat.reduceSub, Nat.reduceLeDiff]
  repeat' (first | assumption | exact trivial | apply And.intro)
theorem sc_row_told : FnScope nm_row_told ["text", "sign"] (defScope (top 28)) := C8.fnScope_by (by decide +kernel)
theorem ln_row_told {B : Bd} (G : Gd B) : FnLink B 4 "row_told" 2 fn_row_told := by
  have c_number_told : FnLink B (3) "number_told" 1 fn_number_told := (ln_number_told G).mono (by omega)
  have g_MOST_SIZE := G.g_MOST_SIZE
  obtain ⟨a, fd, F, hm, hb, hl⟩ := G.d_row_told
  refine fn_ir (k := 3) (tl := false) G.fr nm_row_told F sc_row_told hm hb rfl hl ?_ mt_row_told
  simp only [ir_row_told, okB, okS, okE, okEs, okIO, okI, and_true, true_and, Nat.reduceSub, Nat.reduceLeDiff]
  repeat' (first | assumption | exact trivial | apply And.intro)
theorem sc_rows_told : FnScope nm_rows_told ["lines", "sign"] (defScope (top 30)) := C8.fnScope_by (by decide +kernel)
theorem ln_rows_told {B : Bd} (G : Gd B) : FnLink B 5 "rows_told" 2 fn_rows_told := by
  have c_row_told : FnLink B (4) "row_told" 2 fn_row_told := (ln_row_told G).mono (by omega)
  obtain ⟨a, fd, F, hm, hb, hl⟩ := G.d_rows_told
  refine fn_ir (k := 4) (tl := false) G.fr nm_rows_told F sc_rows_told hm hb rfl hl ?_ mt_rows_told
  simp only [ir_rows_told, okB, okS, okE, okEs, okIO, okI, and_true, true_and, Nat.reduceSub, Nat.reduceLeDiff]
  repeat' (first | assumption | exact trivial | apply And.intro)
theorem sc_read_matrix : FnScope nm_read_matrix ["text"] (defScope (top 31)) := C8.fnScope_by (by decide +kernel)
theorem ln_read_matrix {B : Bd} (G : Gd B) : FnLink B 6 "read_matrix" 1 fn_read_matrix := by
  have c_rows_told : FnLink B (5) "rows_told" 2 fn_rows_told := (ln_rows_told G).mono (by omega)
  have r_InvalidText : RaiseOk B (5) "InvalidText" := RaiseOk.at1 G.r_InvalidText (by omega)
  have g_MOST_SIZE := G.g_MOST_SIZE
  obtain ⟨a, fd, F, hm, hb, hl⟩ := G.d_read_matrix
  refine fn_ir (k := 5) (tl := false) G.fr nm_read_matrix F sc_read_matrix hm hb rfl hl ?_ mt_read_matrix
  simp only [ir_read_matrix, okB, okS, okE, okEs, okIO, okI, and_true, true_and, Nat.reduceSub, Nat.reduceLeDiff]
  repeat' (first | assumption | exact trivial | apply And.intro)
theorem sc_is_vector : FnScope nm_is_vector ["value"] (defScope (top 18)) := C8.fnScope_by (by decide +kernel)
theorem ln_is_vector {B : Bd} (G : Gd B) : FnLink B 3 "is_vector" 1 fn_is_vector := by
  have c_is_row : FnLink B (2) "is_row" 1 fn_is_row := (ln_is_row G).mono (by omega)
  have c_is_from_to : FnLink B (2) "is_from_to" 3 fn_is_from_to := (ln_is_from_to G).mono (by omega)
  have g_MOST_SIZE := G.g_MOST_SIZE
  have g_MOST_NUMBER := G.g_MOST_NUMBER
  obtain ⟨a, fd, F, hm, hb, hl⟩ := G.d_is_vector
  refine fn_ir (k := 2) (tl := false) G.fr nm_is_vector F sc_is_vector hm hb rfl hl ?_ mt_is_vector
  simp only [ir_is_vector, okB, okS, okE, okEs, okIO, okI, and_true, true_and, Nat.reduceSub, Nat.reduceLeDiff]
  repeat' (first | assumption | exact trivial | apply And.intro)
theorem sc_is_matrix : FnScope nm_is_matrix ["value"] (defScope (top 19)) := C8.fnScope_by (by decide +kernel)
theorem ln_is_matrix {B : Bd} (G : Gd B) : FnLink B 4 "is_matrix" 1 fn_is_matrix := by
  have c_is_row : FnLink B (3) "is_row" 1 fn_is_row := (ln_is_row G).mono (by omega)
  have c_is_vector : FnLink B (3) "is_vector" 1 fn_is_vector := (ln_is_vector G).mono (by omega)
  have g_MOST_SIZE := G.g_MOST_SIZE
  obtain ⟨a, fd, F, hm, hb, hl⟩ := G.d_is_matrix
  refine fn_ir (k := 3) (tl := false) G.fr nm_is_matrix F sc_is_matrix hm hb rfl hl ?_ mt_is_matrix
  simp only [ir_is_matrix, okB, okS, okE, okEs, okIO, okI, and_true, true_and, Nat.reduceSub, Nat.reduceLeDiff]
  repeat' (first | assumption | exact trivial | apply And.intro)
theorem sc_checked_matrix : FnScope nm_checked_matrix ["a"] (defScope (top 21)) := C8.fnScope_by (by decide +kernel)
theorem ln_checked_matrix {B : Bd} (G : Gd B) : FnLink B 5 "checked_matrix" 1 fn_checked_matrix := by
  have c_is_matrix : FnLink B (4) "is_matrix" 1 fn_is_matrix := (ln_is_matrix G).mono (by omega)
  have r_InvalidMatrix : RaiseOk B (4) "InvalidMatrix" := RaiseOk.at1 G.r_InvalidMatrix (by omega)
  obtain ⟨a, fd, F, hm, hb, hl⟩ := G.d_checked_matrix
  refine fn_ir (k := 4) (tl := false) G.fr nm_checked_matrix F sc_checked_matrix hm hb rfl hl ?_ mt_checked_matrix
  simp only [ir_checked_matrix, okB, okS, okE, okEs, okIO, okI, and_true, true_and, Nat.reduceSub, Nat.reduceLeDiff]
  repeat' (first | assumption | exact trivial | apply And.intro)
theorem sc_write_matrix : FnScope nm_write_matrix ["a"] (defScope (top 29)) := C8.fnScope_by (by decide +kernel)
theorem ln_write_matrix {B : Bd} (G : Gd B) : FnLink B 6 "write_matrix" 1 fn_write_matrix := by
  have c_checked_matrix : FnLink B (5) "checked_matrix" 1 fn_checked_matrix := (ln_checked_matrix G).mono (by omega)
  have c_joined : FnLink B (5) "joined" 3 fn_joined := (ln_joined G).mono (by omega)
  obtain ⟨a, fd, F, hm, hb, hl⟩ := G.d_write_matrix
  refine fn_ir (k := 5) (tl := false) G.fr nm_write_matrix F sc_write_matrix hm hb rfl hl ?_ mt_write_matrix
  simp only [ir_write_matrix, okB, okS, okE, okEs, okIO, okI, and_true, true_and, Nat.reduceSub, Nat.reduceLeDiff]
  repeat' (first | assumption | exact trivial | apply And.intro)
theorem sc__law_matrices : FnScope nm__law_matrices ["source"] (defScope (top 58)) := C8.fnScope_by (by decide +kernel)
theorem ln__law_matrices {B : Bd} (G : Gd B) : FnLink B 12 "_law_matrices" 1 fn__law_matrices := by
  have c__law_draw : FnLink B (11) "_law_draw" 2 fn__law_draw := (ln__law_draw G).mono (by omega)
  have c__law_one : FnLink B (11) "_law_one" 1 fn__law_one := (ln__law_one G).mono (by omega)
  have c__law_handed : FnLink B (11) "_law_handed" 2 fn__law_handed := (ln__law_handed G).mono (by omega)
  have c__law_texts : FnLink B (11) "_law_texts" 2 fn__law_texts := (ln__law_texts G).mono (by omega)
  have c__law_gives : FnLink B (11) "_law_gives" 2 fn__law_gives := (ln__law_gives G).mono (by omega)
  have c__law_copy : FnLink B (11) "_law_copy" 1 fn__law_copy := (ln__law_copy G).mono (by omega)
  have c__law_fits : FnLink B (11) "_law_fits" 2 fn__law_fits := (ln__law_fits G).mono (by omega)
  have c__law_matrix_due : FnLink B (11) "_law_matrix_due" 1 fn__law_matrix_due := (ln__law_matrix_due G).mono (by omega)
  have c__law_raises : FnLink B (11) "_law_raises" 3 fn__law_raises := (ln__law_raises G).mono (by omega)
  have c__law_tuple : FnLink B (11) "_law_tuple" 1 fn__law_tuple := (ln__law_tuple G).mono (by omega)
  have t_write_matrix : FnLink B (11 - 2) "write_matrix" 1 fn_write_matrix := (ln_write_matrix G).mono (by omega)
  have t_read_matrix : FnLink B (11 - 2) "read_matrix" 1 fn_read_matrix := (ln_read_matrix G).mono (by omega)
  have told := G.told
  simp only [Nat.reduceSub] at *
  obtain ⟨a, fd, F, hm, hb, hl⟩ := G.d__law_matrices
  refine fn_ir (k := 11) (tl := true) G.fr nm__law_matrices F sc__law_matrices hm hb rfl hl ?_ mt__law_matrices
  simp only [ir__law_matrices, okB, okS, okE, okEs, okIO, okI, and_true, true_and, Nat.reduceSub, Nat.reduceLeDiff]
  repeat' (first | assumption | exact trivial | apply And.intro)
theorem sc__law_vector_due : FnScope nm__law_vector_due ["text"] (defScope (top 52)) := C8.fnScope_by (by decide +kernel)
theorem ln__law_vector_due {B : Bd} (G : Gd B) : FnLink B 3 "_law_vector_due" 1 fn__law_vector_due := by
  have c__law_numbers : FnLink B (2) "_law_numbers" 1 fn__law_numbers := (ln__law_numbers G).mono (by omega)
  obtain ⟨a, fd, F, hm, hb, hl⟩ := G.d__law_vector_due
  refine fn_ir (k := 2) (tl := false) G.fr nm__law_vector_due F sc__law_vector_due hm hb rfl hl ?_ mt__law_vector_due
  simp only [ir__law_vector_due, okB, okS, okE, okEs, okIO, okI, and_true, true_and, Nat.reduceSub, Nat.reduceLeDiff]
  repeat' (first | assumption | exact trivial | apply And.intro)
theorem sc_read_vector : FnScope nm_read_vector ["text"] (defScope (top 34)) := C8.fnScope_by (by decide +kernel)
theorem ln_read_vector {B : Bd} (G : Gd B) : FnLink B 4 "read_vector" 1 fn_read_vector := by
  have c_number_told : FnLink B (3) "number_told" 1 fn_number_told := (ln_number_told G).mono (by omega)
  have r_InvalidText : RaiseOk B (3) "InvalidText" := RaiseOk.at1 G.r_InvalidText (by omega)
  have g_MOST_SIZE := G.g_MOST_SIZE
  obtain ⟨a, fd, F, hm, hb, hl⟩ := G.d_read_vector
  refine fn_ir (k := 3) (tl := false) G.fr nm_read_vector F sc_read_vector hm hb rfl hl ?_ mt_read_vector
  simp only [ir_read_vector, okB, okS, okE, okEs, okIO, okI, and_true, true_and, Nat.reduceSub, Nat.reduceLeDiff]
  repeat' (first | assumption | exact trivial | apply And.intro)
theorem sc_vector_text : FnScope nm_vector_text ["v"] (defScope (top 32)) := C8.fnScope_by (by decide +kernel)
theorem ln_vector_text {B : Bd} (G : Gd B) : FnLink B 2 "vector_text" 1 fn_vector_text := by
  have c_joined : FnLink B (1) "joined" 3 fn_joined := (ln_joined G).mono (by omega)
  obtain ⟨a, fd, F, hm, hb, hl⟩ := G.d_vector_text
  refine fn_ir (k := 1) (tl := false) G.fr nm_vector_text F sc_vector_text hm hb rfl hl ?_ mt_vector_text
  simp only [ir_vector_text, okB, okS, okE, okEs, okIO, okI, and_true, true_and, Nat.reduceSub, Nat.reduceLeDiff]
  repeat' (first | assumption | exact trivial | apply And.intro)
theorem sc_checked_vector : FnScope nm_checked_vector ["v"] (defScope (top 20)) := C8.fnScope_by (by decide +kernel)
theorem ln_checked_vector {B : Bd} (G : Gd B) : FnLink B 4 "checked_vector" 1 fn_checked_vector := by
  have c_is_vector : FnLink B (3) "is_vector" 1 fn_is_vector := (ln_is_vector G).mono (by omega)
  have r_InvalidVector : RaiseOk B (3) "InvalidVector" := RaiseOk.at1 G.r_InvalidVector (by omega)
  obtain ⟨a, fd, F, hm, hb, hl⟩ := G.d_checked_vector
  refine fn_ir (k := 3) (tl := false) G.fr nm_checked_vector F sc_checked_vector hm hb rfl hl ?_ mt_checked_vector
  simp only [ir_checked_vector, okB, okS, okE, okEs, okIO, okI, and_true, true_and, Nat.reduceSub, Nat.reduceLeDiff]
  repeat' (first | assumption | exact trivial | apply And.intro)
theorem sc_write_vector : FnScope nm_write_vector ["v"] (defScope (top 33)) := C8.fnScope_by (by decide +kernel)
theorem ln_write_vector {B : Bd} (G : Gd B) : FnLink B 5 "write_vector" 1 fn_write_vector := by
  have c_vector_text : FnLink B (4) "vector_text" 1 fn_vector_text := (ln_vector_text G).mono (by omega)
  have c_checked_vector : FnLink B (4) "checked_vector" 1 fn_checked_vector := (ln_checked_vector G).mono (by omega)
  obtain ⟨a, fd, F, hm, hb, hl⟩ := G.d_write_vector
  refine fn_ir (k := 4) (tl := false) G.fr nm_write_vector F sc_write_vector hm hb rfl hl ?_ mt_write_vector
  simp only [ir_write_vector, okB, okS, okE, okEs, okIO, okI, and_true, true_and, Nat.reduceSub, Nat.reduceLeDiff]
  repeat' (first | assumption | exact trivial | apply And.intro)
theorem sc__law_vectors : FnScope nm__law_vectors ["source"] (defScope (top 59)) := C8.fnScope_by (by decide +kernel)
theorem ln__law_vectors {B : Bd} (G : Gd B) : FnLink B 12 "_law_vectors" 1 fn__law_vectors := by
  have c__law_draw : FnLink B (11) "_law_draw" 2 fn__law_draw := (ln__law_draw G).mono (by omega)
  have c__law_one : FnLink B (11) "_law_one" 1 fn__law_one := (ln__law_one G).mono (by omega)
  have c__law_gives : FnLink B (11) "_law_gives" 2 fn__law_gives := (ln__law_gives G).mono (by omega)
  have c__law_bent : FnLink B (11) "_law_bent" 2 fn__law_bent := (ln__law_bent G).mono (by omega)
  have c__law_word : FnLink B (11) "_law_word" 1 fn__law_word := (ln__law_word G).mono (by omega)
  have c__law_fits : FnLink B (11) "_law_fits" 2 fn__law_fits := (ln__law_fits G).mono (by omega)
  have c__law_vector_due : FnLink B (11) "_law_vector_due" 1 fn__law_vector_due := (ln__law_vector_due G).mono (by omega)
  have c__law_raises : FnLink B (11) "_law_raises" 3 fn__law_raises := (ln__law_raises G).mono (by omega)
  have t_write_vector : FnLink B (11 - 2) "write_vector" 1 fn_write_vector := (ln_write_vector G).mono (by omega)
  have t_read_vector : FnLink B (11 - 2) "read_vector" 1 fn_read_vector := (ln_read_vector G).mono (by omega)
  have told := G.told
  simp only [Nat.reduceSub] at *
  obtain ⟨a, fd, F, hm, hb, hl⟩ := G.d__law_vectors
  refine fn_ir (k := 11) (tl := true) G.fr nm__law_vectors F sc__law_vectors hm hb rfl hl ?_ mt__law_vectors
  simp only [ir__law_vectors, okB, okS, okE, okEs, okIO, okI, and_true, true_and, Nat.reduceSub, Nat.reduceLeDiff]
  repeat' (first | assumption | exact trivial | apply And.intro)
theorem sc_law : FnScope nm_law ["script"] (defScope (top 61)) := C8.fnScope_by (by decide +kernel)
theorem ok_law {B : Bd} (G : Gd B) {a : Addr} {fd : FuncData} (F : Fun B.K "law" "law" (top 61) a fd) : FnOk B.P B.w B.K B.mg B.base (L2.CX B.P B.w) 13 a fd ["script"] (FnSp B 1 fn_law) := by
  have c__law_begin : FnLink B (12) "_law_begin" 1 fn__law_begin := (ln__law_begin G).mono (by omega)
  have c__law_matrices : FnLink B (12) "_law_matrices" 1 fn__law_matrices := (ln__law_matrices G).mono (by omega)
  have c__law_vectors : FnLink B (12) "_law_vectors" 1 fn__law_vectors := (ln__law_vectors G).mono (by omega)
  have c__law_types : FnLink B (12) "_law_types" 1 fn__law_types := (ln__law_types G).mono (by omega)
  refine fn_irO (k := 12) (tl := false) G.fr nm_law F sc_law rfl (fun z => by cases z) ?_ mt_law
  simp only [ir_law, okB, okS, okE, okEs, okIO, okI, and_true, true_and, Nat.reduceSub, Nat.reduceLeDiff]
  repeat' (first | assumption | exact trivial | apply And.intro)
abbrev gB (K : PySem.W.Frag) (mg : Str → Option Value) (w : World) (base : Heap) : Bd := ⟨K, mg, lamTab hTf K, PySem.Challenge.rw_multipliedout_k95_texts_there_and_back.prog, w, base⟩
theorem ground {K : PySem.W.Frag} {h : Heap} {mg : Str → Option Value} {w : World} {base : Heap} (X : K.In h) (hG : h.Ns mainGlobals mg) (c : SaysZ hFa hFn hTf (exB PySem.Challenge.rw_multipliedout_k95_texts_there_and_back.prog) h K)
    (htab : ∀ p ∈ hTf, LamX.TabB base mg (He.cT K p).1 (He.cT K p).2) : Gd (gB K mg w base) := by
  have fr : ∀ (j : Nat) (x : Str), hFa[j]? = some (.free x) → mg x = none := fun j x e => He.free_ok X hG (c.d.facts (List.mem_of_getElem? e))
  have hd_told : DefAt (gB K mg w base) "_law_told" (top 42) ["call"] false := defAt (B := gB K mg w base) c X hG rfl htab (List.mem_of_getElem? (i := 58) rfl) (List.mem_of_getElem? (i := 41) rfl) (fun z => by cases z) (fun _ _ _ _ _ _ us hl => match us, hl with | [_], _ => rfl)
  exact {
  fr := fun x hx => by
    simp only [freeL, List.mem_cons, List.not_mem_nil, or_false] at hx
    rcases hx with rfl | rfl | rfl | rfl | rfl | rfl | rfl | rfl | rfl | rfl | rfl | rfl | rfl | rfl | rfl | rfl
    · exact fr 0 _ rfl
    · exact fr 1 _ rfl
    · exact fr 2 _ rfl
    · exact fr 3 _ rfl
    · exact fr 4 _ rfl
    · exact fr 5 _ rfl
    · exact fr 6 _ rfl
    · exact fr 7 _ rfl
    · exact fr 8 _ rfl
    · exact fr 9 _ rfl
    · exact fr 10 _ rfl
    · exact fr 11 _ rfl
    · exact fr 12 _ rfl
    · exact fr 13 _ rfl
    · exact fr 14 _ rfl
    · exact fr 15 _ rfl
  d__law_begin := defAt (B := gB K mg w base) c X hG rfl htab (List.mem_of_getElem? (i := 17) rfl) (List.mem_of_getElem? (i := 0) rfl) (fun z => by cases z) (fun _ _ _ _ _ _ us hl => match us, hl with | [_], _ => rfl)
  d__law_draw := defAt (B := gB K mg w base) c X hG rfl htab (List.mem_of_getElem? (i := 18) rfl) (List.mem_of_getElem? (i := 1) rfl) (fun z => by cases z) (fun _ _ _ _ _ _ us hl => match us, hl with | [_, _], _ => rfl)
  d__law_same := defAt (B := gB K mg w base) c X hG rfl htab (List.mem_of_getElem? (i := 19) rfl) (List.mem_of_getElem? (i := 2) rfl) (fun z => by cases z) (fun _ _ _ _ _ _ us hl => match us, hl with | [_, _], _ => rfl)
  d__law_gives := defAt (B := gB K mg w base) c X hG rfl htab (List.mem_of_getElem? (i := 20) rfl) (List.mem_of_getElem? (i := 3) rfl) (fun z => by cases z) (fun _ _ _ _ _ _ us hl => match us, hl with | [_, _], _ => rfl)
  d__law_raises := defAt (B := gB K mg w base) c X hG rfl htab (List.mem_of_getElem? (i := 21) rfl) (List.mem_of_getElem? (i := 4) rfl) (fun z => by cases z) (fun _ _ _ _ _ _ us hl => match us, hl with | [_, _, _], _ => rfl)
  d_joined := defAt (B := gB K mg w base) c X hG rfl htab (List.mem_of_getElem? (i := 22) rfl) (List.mem_of_getElem? (i := 5) rfl) (fun z => by cases z) (fun _ _ _ _ _ _ us hl => match us, hl with | [_, _, _], _ => rfl)
  d_text_of_type := defAt (B := gB K mg w base) c X hG rfl htab (List.mem_of_getElem? (i := 23) rfl) (List.mem_of_getElem? (i := 6) rfl) (fun z => by cases z) (fun _ _ _ _ _ _ us hl => match us, hl with | [_], _ => rfl)
  d_is_row := defAt (B := gB K mg w base) c X hG rfl htab (List.mem_of_getElem? (i := 24) rfl) (List.mem_of_getElem? (i := 7) rfl) (fun z => by cases z) (fun _ _ _ _ _ _ us hl => match us, hl with | [_], _ => rfl)
  d_is_number := defAt (B := gB K mg w base) c X hG rfl htab (List.mem_of_getElem? (i := 25) rfl) (List.mem_of_getElem? (i := 8) rfl) (fun z => by cases z) (fun _ _ _ _ _ _ us hl => match us, hl with | [_], _ => rfl)
  d_is_from_to := defAt (B := gB K mg w base) c X hG rfl htab (List.mem_of_getElem? (i := 26) rfl) (List.mem_of_getElem? (i := 9) rfl) (fun z => by cases z) (fun _ _ _ _ _ _ us hl => match us, hl with | [_, _, _], _ => rfl)
  d_is_type := defAt (B := gB K mg w base) c X hG rfl htab (List.mem_of_getElem? (i := 27) rfl) (List.mem_of_getElem? (i := 10) rfl) (fun z => by cases z) (fun _ _ _ _ _ _ us hl => match us, hl with | [_], _ => rfl)
  d_type_text := defAt (B := gB K mg w base) c X hG rfl htab (List.mem_of_getElem? (i := 28) rfl) (List.mem_of_getElem? (i := 11) rfl) (fun z => by cases z) (fun _ _ _ _ _ _ us hl => match us, hl with | [_], _ => rfl)
  d__law_types := defAt (B := gB K mg w base) c X hG rfl htab (List.mem_of_getElem? (i := 29) rfl) (List.mem_of_getElem? (i := 12) rfl) (fun z => List.mem_of_getElem? (i := 0) rfl) (fun _ _ _ _ _ _ us hl => match us, hl with | [_], _ => rfl)
  d__law_copy := defAt (B := gB K mg w base) c X hG rfl htab (List.mem_of_getElem? (i := 30) rfl) (List.mem_of_getElem? (i := 13) rfl) (fun z => by cases z) (fun _ _ _ _ _ _ us hl => match us, hl with | [_], _ => rfl)
  d__law_tuple := defAt (B := gB K mg w base) c X hG rfl htab (List.mem_of_getElem? (i := 31) rfl) (List.mem_of_getElem? (i := 14) rfl) (fun z => by cases z) (fun _ _ _ _ _ _ us hl => match us, hl with | [_], _ => rfl)
  d__law_handed := defAt (B := gB K mg w base) c X hG rfl htab (List.mem_of_getElem? (i := 32) rfl) (List.mem_of_getElem? (i := 15) rfl) (fun z => by cases z) (fun _ _ _ _ _ _ us hl => match us, hl with | [_, _], _ => rfl)
  d__law_bent := defAt (B := gB K mg w base) c X hG rfl htab (List.mem_of_getElem? (i := 33) rfl) (List.mem_of_getElem? (i := 16) rfl) (fun z => by cases z) (fun _ _ _ _ _ _ us hl => match us, hl with | [_, _], _ => rfl)
  d__law_word := defAt (B := gB K mg w base) c X hG rfl htab (List.mem_of_getElem? (i := 34) rfl) (List.mem_of_getElem? (i := 17) rfl) (fun z => by cases z) (fun _ _ _ _ _ _ us hl => match us, hl with | [_], _ => rfl)
  d__law_texts := defAt (B := gB K mg w base) c X hG rfl htab (List.mem_of_getElem? (i := 35) rfl) (List.mem_of_getElem? (i := 18) rfl) (fun z => by cases z) (fun _ _ _ _ _ _ us hl => match us, hl with | [_, _], _ => rfl)
  d__law_one := defAt (B := gB K mg w base) c X hG rfl htab (List.mem_of_getElem? (i := 36) rfl) (List.mem_of_getElem? (i := 19) rfl) (fun z => by cases z) (fun _ _ _ _ _ _ us hl => match us, hl with | [_], _ => rfl)
  d__law_fits := defAt (B := gB K mg w base) c X hG rfl htab (List.mem_of_getElem? (i := 37) rfl) (List.mem_of_getElem? (i := 20) rfl) (fun z => by cases z) (fun _ _ _ _ _ _ us hl => match us, hl with | [_, _], _ => rfl)
  d__law_number := defAt (B := gB K mg w base) c X hG rfl htab (List.mem_of_getElem? (i := 38) rfl) (List.mem_of_getElem? (i := 21) rfl) (fun z => by cases z) (fun _ _ _ _ _ _ us hl => match us, hl with | [_], _ => rfl)
  d__law_numbers := defAt (B := gB K mg w base) c X hG rfl htab (List.mem_of_getElem? (i := 39) rfl) (List.mem_of_getElem? (i := 22) rfl) (fun z => by cases z) (fun _ _ _ _ _ _ us hl => match us, hl with | [_], _ => rfl)
  d__law_is_wrong := defAt (B := gB K mg w base) c X hG rfl htab (List.mem_of_getElem? (i := 40) rfl) (List.mem_of_getElem? (i := 23) rfl) (fun z => by cases z) (fun _ _ _ _ _ _ us hl => match us, hl with | [_, _], _ => rfl)
  d__law_matrix_due := defAt (B := gB K mg w base) c X hG rfl htab (List.mem_of_getElem? (i := 41) rfl) (List.mem_of_getElem? (i := 24) rfl) (fun z => by cases z) (fun _ _ _ _ _ _ us hl => match us, hl with | [_], _ => rfl)
  d_number_told := defAt (B := gB K mg w base) c X hG rfl htab (List.mem_of_getElem? (i := 42) rfl) (List.mem_of_getElem? (i := 25) rfl) (fun z => by cases z) (fun _ _ _ _ _ _ us hl => match us, hl with | [_], _ => rfl)
  d_row_told := defAt (B := gB K mg w base) c X hG rfl htab (List.mem_of_getElem? (i := 43) rfl) (List.mem_of_getElem? (i := 26) rfl) (fun z => by cases z) (fun _ _ _ _ _ _ us hl => match us, hl with | [_, _], _ => rfl)
  d_rows_told := defAt (B := gB K mg w base) c X hG rfl htab (List.mem_of_getElem? (i := 44) rfl) (List.mem_of_getElem? (i := 27) rfl) (fun z => by cases z) (fun _ _ _ _ _ _ us hl => match us, hl with | [_, _], _ => rfl)
  d_read_matrix := defAt (B := gB K mg w base) c X hG rfl htab (List.mem_of_getElem? (i := 45) rfl) (List.mem_of_getElem? (i := 28) rfl) (fun z => by cases z) (fun _ _ _ _ _ _ us hl => match us, hl with | [_], _ => rfl)
  d_is_vector := defAt (B := gB K mg w base) c X hG rfl htab (List.mem_of_getElem? (i := 46) rfl) (List.mem_of_getElem? (i := 29) rfl) (fun z => by cases z) (fun _ _ _ _ _ _ us hl => match us, hl with | [_], _ => rfl)
  d_is_matrix := defAt (B := gB K mg w base) c X hG rfl htab (List.mem_of_getElem? (i := 47) rfl) (List.mem_of_getElem? (i := 30) rfl) (fun z => by cases z) (fun _ _ _ _ _ _ us hl => match us, hl with | [_], _ => rfl)
  d_checked_matrix := defAt (B := gB K mg w base) c X hG rfl htab (List.mem_of_getElem? (i := 48) rfl) (List.mem_of_getElem? (i := 31) rfl) (fun z => by cases z) (fun _ _ _ _ _ _ us hl => match us, hl with | [_], _ => rfl)
  d_write_matrix := defAt (B := gB K mg w base) c X hG rfl htab (List.mem_of_getElem? (i := 49) rfl) (List.mem_of_getElem? (i := 32) rfl) (fun z => by cases z) (fun _ _ _ _ _ _ us hl => match us, hl with | [_], _ => rfl)
  d__law_matrices := defAt (B := gB K mg w base) c X hG rfl htab (List.mem_of_getElem? (i := 50) rfl) (List.mem_of_getElem? (i := 33) rfl) (fun z => List.mem_of_getElem? (i := 1) rfl) (fun _ _ _ _ _ _ us hl => match us, hl with | [_], _ => rfl)
  d__law_vector_due := defAt (B := gB K mg w base) c X hG rfl htab (List.mem_of_getElem? (i := 51) rfl) (List.mem_of_getElem? (i := 34) rfl) (fun z => by cases z) (fun _ _ _ _ _ _ us hl => match us, hl with | [_], _ => rfl)
  d_read_vector := defAt (B := gB K mg w base) c X hG rfl htab (List.mem_of_getElem? (i := 52) rfl) (List.mem_of_getElem? (i := 35) rfl) (fun z => by cases z) (fun _ _ _ _ _ _ us hl => match us, hl with | [_], _ => rfl)
  d_vector_text := defAt (B := gB K mg w base) c X hG rfl htab (List.mem_of_getElem? (i := 53) rfl) (List.mem_of_getElem? (i := 36) rfl) (fun z => by cases z) (fun _ _ _ _ _ _ us hl => match us, hl with | [_], _ => rfl)
  d_checked_vector := defAt (B := gB K mg w base) c X hG rfl htab (List.mem_of_getElem? (i := 54) rfl) (List.mem_of_getElem? (i := 37) rfl) (fun z => by cases z) (fun _ _ _ _ _ _ us hl => match us, hl with | [_], _ => rfl)
  d_write_vector := defAt (B := gB K mg w base) c X hG rfl htab (List.mem_of_getElem? (i := 55) rfl) (List.mem_of_getElem? (i := 38) rfl) (fun z => by cases z) (fun _ _ _ _ _ _ us hl => match us, hl with | [_], _ => rfl)
  d__law_vectors := defAt (B := gB K mg w base) c X hG rfl htab (List.mem_of_getElem? (i := 56) rfl) (List.mem_of_getElem? (i := 39) rfl) (fun z => List.mem_of_getElem? (i := 2) rfl) (fun _ _ _ _ _ _ us hl => match us, hl with | [_], _ => rfl)
  d_law := defAt (B := gB K mg w base) c X hG rfl htab (List.mem_of_getElem? (i := 57) rfl) (List.mem_of_getElem? (i := 40) rfl) (fun z => by cases z) (fun _ _ _ _ _ _ us hl => match us, hl with | [_], _ => rfl)
  g_TYPE_PARTS := globAt (B := gB K mg w base) X hG (c.d.facts (List.mem_of_getElem? (i := 63) rfl))
  g_MOST_ORDER := globAt (B := gB K mg w base) X hG (c.d.facts (List.mem_of_getElem? (i := 62) rfl))
  g_MOST_NUMBER := globAt (B := gB K mg w base) X hG (c.d.facts (List.mem_of_getElem? (i := 60) rfl))
  g_FIGURES := globAt (B := gB K mg w base) X hG (c.d.facts (List.mem_of_getElem? (i := 61) rfl))
  g_MOST_SIZE := globAt (B := gB K mg w base) X hG (c.d.facts (List.mem_of_getElem? (i := 59) rfl))
  r_Unfit := fun k => raiseAt (B := gB K mg w base) rfl c X hG (fr 16 _ rfl) (by decide +kernel) k
  r_InvalidText := fun k => raiseAt (B := gB K mg w base) rfl c X hG (fr 16 _ rfl) (by decide +kernel) k
  r_InvalidMatrix := fun k => raiseAt (B := gB K mg w base) rfl c X hG (fr 16 _ rfl) (by decide +kernel) k
  r_InvalidVector := fun k => raiseAt (B := gB K mg w base) rfl c X hG (fr 16 _ rfl) (by decide +kernel) k
  told := toldAt (B := gB K mg w base) c X hG hd_told (fr 11 _ rfl) (C8.fnScope_by (by decide +kernel)) (by decide +kernel) (by decide +kernel) (by decide +kernel)
  }
theorem facts {K : PySem.W.Frag} {h : Heap} {mg : Str → Option Value} {w : World} {f : Addr} (X : K.In h) (hG : h.Ns mainGlobals mg) (c : SaysZ hFa hFn hTf (exB PySem.Challenge.rw_multipliedout_k95_texts_there_and_back.prog) h K) (hfa : mg "law" = some (.ref f))
    (plain : ∀ ns : List Int, ns.length ≤ 63 → (∀ z ∈ ns, Builtin.Int.intBits z ≤ 1048576) → fn_law [.scr ns] [] = some (.ok (.bl true), [])) : LamX.LawAtS PySem.Challenge.rw_multipliedout_k95_texts_there_and_back w K (L2.CX PySem.Challenge.rw_multipliedout_k95_texts_there_and_back.prog w) 13 63 "script" mg f h :=
  lawAt c X hG hfa (List.mem_of_getElem? (i := 57) rfl) (List.mem_of_getElem? (i := 40) rfl) (fun _ _ _ _ _ _ us hl => match us, hl with | [_], _ => rfl) plain fun base ht fd F => ok_law (ground X hG c ht) F
end Z



set_option Elab.async false
set_option linter.all false
set_option maxRecDepth 100000
set_option maxHeartbeats 4000000
open PySem PySem.W PySem.Calls PyProof.Rows
theorem PySem.Challenge.cw_multipliedout_k95_texts_there_and_back_holds : PySem.Challenge.rw_multipliedout_k95_texts_there_and_back.Holds := by
  w_on; o_law
  refine HandSHeadRun.head_any (r := OpenLaw.row PySem.Challenge.rw_multipliedout_k95_texts_there_and_back) (q := view (OpenLaw.row PySem.Challenge.rw_multipliedout_k95_texts_there_and_back).prog [61]) (H := Z.hHk) (ob := Z.hOb) (M := 12000) (loose := Z.hNames) (d := HandSHeadRun.topDef (OpenLaw.row PySem.Challenge.rw_multipliedout_k95_texts_there_and_back).prog 61) (kwd := []) Z.hOb_eq
    (by kernel_rfl) (fun s => by kernel_rfl) Z.hRun (by kernel_rfl) (by kernel_rfl) (by kernel_rfl) (by rfl) (by first | assumption | decide +kernel) (by decide +kernel) ⟨rfl, rfl, rfl, rfl, rfl, by decide +kernel⟩ ?hw ?hc
  case hw => w_witness2
  case hc =>
    refine LamX.walk_ofTsE (l := PySem.Challenge.rw_multipliedout_k95_texts_there_and_back) (n := 63) (k := 13) (x := "script") (CX := fun w => L2.CX PySem.Challenge.rw_multipliedout_k95_texts_there_and_back.prog w) rfl (by decide) (by kernel_rfl) ⟨rfl, by decide, by decide⟩ ?F (fun w H s e s' z => ?z)
    case z =>
      obtain ⟨_, _, _, _, _, _, _, _, _, _, _, _, y⟩ := z
      exact y.elim
    intro w mg fa h Y G hmg0
    obtain ⟨K, KX, c⟩ := Y
    have hmg : mg ("law" : PySem.Str) = some (.ref fa) := by
      have e : (HandSHeadRun.topDef (OpenLaw.row PySem.Challenge.rw_multipliedout_k95_texts_there_and_back).prog 61).name = ("law" : PySem.Str) := by kernel_rfl
      rw [← e]
      exact hmg0
    exact ⟨K, KX, Z.facts KX G c hmg Z.plain_law⟩



