import PyProof.Rows.All
import Open.Line
import OpenK.KCell
import KE.LcTurns
import Open.Boot
import Open.FastT9
import PyProof.ExcAttrAll.Exception
import PySem.Challenge.RW_sa0122_01
set_option Elab.async false
section
open PySem PySem.W PyProof.Rows PySem.Calls PySem.Spec
namespace Mine
inductive D where
  | none | no
  | bool (b : Bool) | int (i : Int) | str (n : Nat)
  | tup (l : List D) | lst (l : List D) | own (l : List D)

def sTab : List String := ["num", "sym", "pow", "call", "sqrt", "sum", "prod", "sin", "tan", "atan", "exp", "log", "cos", "limit", "domain", "x"]
def strOf (n : Nat) : Str := Str.ofString (sTab.getD n "")
def constTab : List (String × D) := [("R0", .tup [.int 0, .int 1]), ("R1", .tup [.int 1, .int 1]), ("MOST_BITS", .int 200000), ("MOST_SQUARED", .int 1000), ("MORE", .tup [.int 0, .int 2, .int 4, .int 8, .int 16, .int 32, .int 64]), ("T_ZERO", .tup [.str 0, .int 0, .int 1]), ("T_ONE", .tup [.str 0, .int 1, .int 1]), ("T_MINUS", .tup [.str 0, .int (-1), .int 1])]
def bltTab : List (String × Value) := [("abs", .builtin "abs"), ("len", .builtin "len"), ("min", .builtin "min"), ("max", .builtin "max"), ("range", .type "range"), ("list", .type "list"), ("tuple", .type "tuple"), ("int", .type "int"), ("zip", .type "zip"), ("Exception", .type "Exception")]
def nthS : List Stmt → Nat → Stmt
  | [], _ => .Pass default
  | a :: _, 0 => a
  | _ :: r, n + 1 => nthS r n
abbrev stAt (k : Nat) : Stmt := nthS PySem.Challenge.pw_sa0122_01.main.body k
abbrev fBody : Stmt → List Stmt
  | .FunctionDef _ _ b _ _ _ _ _ _ _ => b
  | _ => []
abbrev fScope : Stmt → Scope
  | .FunctionDef _ _ _ _ _ _ sc _ _ _ => sc
  | _ => default
abbrev fArgs : Stmt → Arguments
  | .FunctionDef _ a _ _ _ _ _ _ _ _ => a
  | _ => default
abbrev nm (s : String) : Str := Str.ofString s
mutual
def repB (h : Heap) : D → Value → Bool
  | .none, .none => true
  | .bool b, .bool c => b == c
  | .int i, .int j _ => i == j
  | .str n, .str x _ => Nat.blt n sTab.length && x == strOf n
  | .tup l, .ref a => match h.get? a with
    | some o => o.cls == .type "tuple" && (match o.data with
      | .seq vs _ => repsB h l vs.toList
      | _ => false)
    | none => false
  | _, _ => false
def repsB (h : Heap) : List D → List Value → Bool
  | [], [] => true
  | d :: ds, v :: vs => repB h d v && repsB h ds vs
  | _, _ => false
end
def clsBody : Stmt → List Stmt
  | .ClassDef _ _ _ body _ _ _ _ _ _ _ => body
  | _ => []
abbrev initS : Stmt := nthS (clsBody (stAt 1)) 0
def initFd : FuncData := { name := nm "__init__", qualname := nm "CasFail.__init__", params := fArgs initS, body := .stmts (fBody initS), scope := fScope initS, globals := mainGlobals, closure := [], defaults := .none, kwdefaults := .none, builtins := builtinsNs }
def bare (fd : FuncData) : FuncData := { fd with pyModule := .none, code := .none, doc := .none, annotations := none, closureTuple := .none }
def exBm : List Value := [.type "Exception", .type "BaseException", .type "object"]
def quiet : List String := ["kind", "text", "__setattr__", "__getattribute__", "__getattr__", "args", "__eq__", "__ne__", "__get__", "__new__", "__del__"]
def seeCls (h : Heap) : Option (Bool × FuncData) :=
  match h.clsAt mainGlobals (nm "CasFail") with
  | some (C, o, cd) => match h.nsMap cd.ns (nm "__init__") with
    | some (.ref f) => match h.get? f with
      | some fo => match fo.data with
        | .func fd => some (o.cls == .type "type" && (cd.mro == .ref C :: exBm && (cd.hasDict && (!cd.hasDel && (o.slots.size == 6 && (o.slots[4]? == some (some (.builtin "Exception.__new__")) && (h.isNs cd.ns && ((quiet.all fun x => (h.nsMap cd.ns (nm x)).isNone) && (fo.cls == .type "function" && h.codeRecOk fd.code fd.qualname)))))))), bare fd)
        | _ => none
      | none => none
    | _ => none
  | none => none
def seeConst (h : Heap) : Bool := h.isNs mainGlobals && constTab.all fun p => (h.nsMap mainGlobals (nm p.1)).any (repB h p.2)

def seeAll (h : Heap) : Option FuncData := match seeCls h with
  | some (b, fd) => if (b && seeConst h) = true then some fd else none
  | none => none
def Sees (h : Heap) : Prop := ∃ h₀, seeAll h₀ = some initFd ∧ ∀ b o, h₀.get? b = some o → h.get? b = some o
def hook : Hook := ⟨Option FuncData, fun s => seeAll s.heap, fun _ => some initFd, fun _ h => Sees h, fun _ s e => ⟨s.heap, e, fun _ _ x => x⟩, fun _ _ _ x k => let ⟨h₀, e, q⟩ := x; ⟨h₀, e, fun b o y => k b o (q b o y)⟩⟩
def recOf : Stmt → Option DefRec
  | .FunctionDef n a b _ _ _ sc _ _ pos => some ⟨n, a, b, sc, pos⟩
  | _ => none
def recs0 : List DefRec := PySem.Challenge.pw_sa0122_01.main.body.filterMap recOf
def freeOk (p : Program) (loose : List Str) : Bool := bltTab.all fun q => !(startupNames.contains (nm q.1)) && (!(loose.contains (nm q.1)) && (!(((recsOf p).map (·.name)).contains (nm q.1)) && (!(((litsOf p).map (·.1)).contains (nm q.1)) && !(((clssOf p loose).map (·.name)).contains (nm q.1)))))
theorem good_end {cl : Str → Option Addr} {mean : ExcName → Option Value} {s₁ s' : Shared} {l : List Int} (hg : s₁.gens = #[]) (e : s' = { s₁ with heap := s'.heap, toks := s'.toks }) (k : s₁.heap.StaysIn s'.heap) :
    GoodWG PySem.Challenge.rw_sa0122_01.row.claim cl mean [ofPy (.list (l.map .int))] s₁ (.ok (.ret (.bool true))) s' := by
  refine ⟨.inl ⟨_, .bool true, [], rfl, ?_, .bool _, ?_, ?_⟩, OldK.of_keep k, by rw [e], .of_eq (by rw [e]; exact hg)⟩
  · intro cls
    rfl
  · first | exact postW_of (X := true) (by rfl) (by rfl) rfl | wrow_post | exact postW_of (X := true) (by rfl) (by wtm_val) rfl
  · intro _; exact ⟨.nil, fun a ha => nomatch ha⟩
def view : Program := { PySem.Challenge.pw_sa0122_01 with main := { PySem.Challenge.pw_sa0122_01.main with body := [stAt 1, stAt 3, stAt 4, stAt 5, stAt 7, stAt 8, stAt 9, stAt 10, stAt 11, stAt 12, stAt 13, stAt 14, stAt 15, stAt 16, stAt 17, stAt 18, stAt 20, stAt 21, stAt 22, stAt 23, stAt 24, stAt 25, stAt 26, stAt 27, stAt 28, stAt 29, stAt 30, stAt 31, stAt 32, stAt 33, stAt 34, stAt 35, stAt 36, stAt 37, stAt 39, stAt 40, stAt 41, stAt 42, stAt 43, stAt 44, stAt 45, stAt 46, stAt 48, stAt 49, stAt 50, stAt 51, stAt 52, stAt 53, stAt 54, stAt 55, stAt 56, stAt 57, stAt 59, stAt 60, stAt 61, stAt 62, stAt 63, stAt 64, stAt 65, stAt 66, stAt 67, stAt 68, stAt 70, stAt 71, stAt 72, stAt 73, stAt 74, stAt 75, stAt 76, stAt 77, stAt 78] } }
abbrev theRow : OpenRow := PySem.Challenge.rw_sa0122_01.row
def tests (s : Shared) : Bool := xlAt view [] s && recOk theRow.records s

def looseV : List Str := ["R0", "R1", "MORE", "T_ZERO", "T_ONE", "T_MINUS"].map nm
def wlitsV : List (Str × WData) := [("R0", .tuple [.int 0, .int 1]), ("R1", .tuple [.int 1, .int 1]), ("MORE", .tuple [.int 0, .int 2, .int 4, .int 8, .int 16, .int 32, .int 64]),
  ("T_ZERO", .tuple [.str (nm "num"), .int 0, .int 1]), ("T_ONE", .tuple [.str (nm "num"), .int 1, .int 1]), ("T_MINUS", .tuple [.str (nm "num"), .int (-1), .int 1])].map fun p => (nm p.1, p.2)
theorem v_recs : recsOf view = recs0 := by kernel_rfl
theorem v_owns : ownsOf view = [] := by kernel_rfl
theorem v_loose : looseW view [] = looseV := by kernel_rfl
theorem v_clss : (clssOf view looseV).map (·.name) = [nm "CasFail"] := by kernel_rfl
theorem v_lits : (litsOf view).map (·.1) = [nm "MOST_BITS", nm "MOST_SQUARED"] := by kernel_rfl
theorem v_drecs : drecsOf view = [] := by kernel_rfl
theorem v_plain : plainsOf view looseV = [] := by kernel_rfl
theorem v_dclss : dclssOf view [] = [] := by kernel_rfl
theorem v_wdefs : wdefsOf view = [] := by kernel_rfl
theorem v_wlits : wlitsOf view = wlitsV := by kernel_rfl
theorem v_wclss : wclssOf view [] = [] := by kernel_rfl
abbrev modsV : List Str := importedModules PySem.Challenge.pw_sa0122_01.main.body
noncomputable abbrev seenV (s : Shared) : Seen := seen (recs0.map (·.name)) [] [] { s with gens := #[] }
noncomputable abbrev wantV : Seen := ⟨recs0.map fun d => some d.shape, true, [], true, true, true, 0⟩
noncomputable abbrev tabsV (s : Shared) : Bool := ((recs0.all fun d => s.heap.tab0Ok d.name) && s.heap.bmainOk && valsOk view s.heap) && (!importsNone view || s.heap.noSeerOk)
noncomputable abbrev keysV (s : Shared) : Bool := s.heap.keysOk looseV (recs0.map (·.name)) [nm "MOST_BITS", nm "MOST_SQUARED"] [nm "CasFail"] && s.heap.accountedOkI modsV && s.heap.isNs mainGlobals && s.heap.isNs builtinsNs && tablesOk view s.heap && tests s && (s.gens.size == 0)

theorem seen_view (s : Shared) : openSeen view [] modsV tests true s = (seenV s, s.heap.bltView, keysV s, tabsV s, ([], true), [], [], ([], wlitsV.all (constAt s.heap)), []) := by
  unfold openSeen tabsOk pinSeenD plainSeenE plainSeenD wideSeen clsSeenW
  rw [v_loose, v_recs, v_owns, v_clss, v_lits, v_drecs, v_plain, v_dclss, v_wdefs, v_wlits, v_wclss]
  rfl
theorem good_view : openGood view [] = (wantV, bltViewBooted, true, true, ([], true), [], [], ([], true), []) := by
  unfold openGood expectedOf pinGoodD plainGoodE plainGoodD wideGood clsGoodW
  rw [v_loose, v_recs, v_drecs, v_plain, v_dclss, v_wdefs, v_wclss]
  rfl
theorem left_of_run {p q : Program} {loose : List Str} {Xt : Shared → Bool} {α : Type} {Yf : Shared → α} {Ya : World → α} {N n : Nat} {H : World → Heap} {gs : Array GenState} {d : Drawn} {k : Nat} {ann : World → Option Value}
    (opens : ∀ w : World, (fencedOpening treeTable p w N).map (fun s => (s.heap, s.gens, s.drawn, s.toks)) = some (H w, gs, d, k))
    (size : ∀ w : World, ((H w).isNs mainGlobals && gs.size == 0, (H w).objs.size, (H w).nsMap mainGlobals "__annotations__") = (true, n, ann w))
    (run : ∀ (w : World) (os : OsState), ∃ s, topRun treeTable p w n (ann w) N ⟨H w, gs, d, k, os⟩ (topStub p) = some s ∧
        (staticsOk (importedModules p.main.body) (H w) s.heap && namesBound p s.heap && gensDone s && laidKept (H w) s.heap) = true ∧
        openSeen q loose (importedModules p.main.body) Xt true s = openGood q loose ∧ Yf s = Ya w) : LeftO p q loose Xt Yf Ya N := by
  intro w
  have o := opens w
  cases e : fencedOpening treeTable p w N with
  | none => rw [e] at o; exact nomatch o
  | some s₀ =>
    rw [e] at o
    injection o with o
    injection o with o1 o
    injection o with o2 o
    injection o with o3 o4
    have hs : s₀ = ⟨H w, gs, d, k, s₀.os⟩ := by rw [← o1, ← o2, ← o3, ← o4]
    obtain ⟨s, r, ok, seen, says⟩ := run w s₀.os
    rw [← hs] at r
    have z := size w
    injection z with z1 z
    injection z with z2 z3
    have t : topFrom treeTable p w N s₀ = some s := by
      simp only [topFrom, o1, o2, z1, z2, z3, r, Option.bind_some, ok]
    simp only [openEnds, e, Option.bind_some, t, Option.map_some, seen, says]
noncomputable abbrev bootAnn (w : World) : Option Value := (boot_heap w.params).nsMap mainGlobals "__annotations__"
noncomputable abbrev bootAt (w : World) (os : OsState) : Shared := ⟨boot_heap w.params, Array.mk [], boot_drawn, boot_toks, os⟩
set_option maxRecDepth 100000 in
set_option maxHeartbeats 8000000 in
theorem run_top : ∀ (w : World) (os : OsState), (topRun treeTable PySem.Challenge.pw_sa0122_01 w 11 (bootAnn w) 4720 (bootAt w os) (topStub PySem.Challenge.pw_sa0122_01)).map (fun s =>
        ((staticsOk modsV (boot_heap w.params) s.heap && namesBound PySem.Challenge.pw_sa0122_01 s.heap && gensDone s && laidKept (boot_heap w.params) s.heap),
        seenV s, s.heap.bltView, keysV s, tabsV s, wlitsV.all (constAt s.heap), hook.obs s)) = some (true, wantV, bltViewBooted, true, true, true, hook.val w) := by
  rw [PySem.W.Fast.te14082659384304107361, PySem.W.Fast.te14364793385576792824]
  exact fun w os => by kernel_rfl
theorem left : LeftO PySem.Challenge.pw_sa0122_01 view [] tests hook.obs hook.val 4720 :=
  left_of_run (H := fun w => boot_heap w.params) (ann := bootAnn) (boot_open (by kernel_rfl) (by decide +kernel) (fun s => by kernel_rfl)) (fun w => by kernel_rfl) fun w os => by
    obtain ⟨s, r, e⟩ := Option.map_eq_some_iff.mp (run_top w os)
    obtain ⟨e1, e⟩ := Prod.mk.inj e
    obtain ⟨e2, e⟩ := Prod.mk.inj e
    obtain ⟨e3, e⟩ := Prod.mk.inj e
    obtain ⟨e4, e⟩ := Prod.mk.inj e
    obtain ⟨e5, e⟩ := Prod.mk.inj e
    obtain ⟨e6, e7⟩ := Prod.mk.inj e
    refine ⟨s, r, e1, ?_, e7⟩
    rw [good_view]
    refine (seen_view s).trans ?_
    rw [e2, e3, e4, e5, e6]
end Mine
end
section
open PySem PySem.W PyProof.Rows PySem.Calls PySem.Spec
namespace Mine

inductive R (α : Type) where
  | ok (a : α) | rz (k : Nat) | st
noncomputable def R.bind {α β : Type} (x : R α) (f : α → R β) : R β := match x with
  | .ok a => f a
  | .rz k => .rz k
  | .st => .st

theorem strOf_inj : ∀ i, i < sTab.length → ∀ j, j < sTab.length → (strOf i == strOf j) = (i == j) := by decide +kernel

mutual
inductive Rep (O : Addr → Prop) (h : Heap) : Value → D → Prop
  | none : Rep O h .none .none
  | bool (b : Bool) : Rep O h (.bool b) (.bool b)
  | int (i : Int) (t : Tok) : Rep O h (.int i t) (.int i)
  | str (n : Nat) (t : Tok) : n < sTab.length → Rep O h (.str (strOf n) t) (.str n)
  | tup {a : Addr} {o : Obj} {vs : Array Value} {n : Nat} {ds : List D} : h.get? a = some o → ¬ O a → o.cls = .type "tuple" → o.data = .seq vs n → RepAll O h vs.toList ds → Rep O h (.ref a) (.tup ds)
  | lst {a : Addr} {vs : Array Value} {n : Nat} {ds : List D} : h.get? a = some { cls := .type "list", data := .seq vs n } → ¬ O a → RepAll O h vs.toList ds → Rep O h (.ref a) (.lst ds)
inductive RepAll (O : Addr → Prop) (h : Heap) : List Value → List D → Prop
  | nil : RepAll O h [] []
  | cons {v : Value} {vs : List Value} {d : D} {ds : List D} : Rep O h v d → RepAll O h vs ds → RepAll O h (v :: vs) (d :: ds)
end


mutual
theorem Rep.imp {O O' : Addr → Prop} {h h' : Heap} (hh : ∀ a o, h.get? a = some o → ¬ O a → (o.cls = .type "tuple" ∨ o.cls = .type "list") → h'.get? a = some o ∧ ¬ O' a) : ∀ {v : Value} {d : D}, Rep O h v d → Rep O' h' v d
  | _, _, .none => .none
  | _, _, .bool b => .bool b
  | _, _, .int i t => .int i t
  | _, _, .str n t k => .str n t k
  | _, _, .tup e n c d r => .tup (hh _ _ e n (.inl c)).1 (hh _ _ e n (.inl c)).2 c d (RepAll.imp hh r)
  | _, _, .lst e n r => .lst (hh _ _ e n (.inr rfl)).1 (hh _ _ e n (.inr rfl)).2 (RepAll.imp hh r)
theorem RepAll.imp {O O' : Addr → Prop} {h h' : Heap} (hh : ∀ a o, h.get? a = some o → ¬ O a → (o.cls = .type "tuple" ∨ o.cls = .type "list") → h'.get? a = some o ∧ ¬ O' a) : ∀ {vs : List Value} {ds : List D}, RepAll O h vs ds → RepAll O' h' vs ds
  | _, _, .nil => .nil
  | _, _, .cons a r => .cons (Rep.imp hh a) (RepAll.imp hh r)
end
section
variable {O O' : Addr → Prop} {h h' : Heap} {v : Value} {d : D} {vs ws : List Value} {ds es : List D}
theorem Rep.stays (x : Rep O h v d) (k : h.StaysIn h') : Rep O h' v d := x.imp fun a o e n _ => ⟨k a o e, n⟩
theorem RepAll.stays (x : RepAll O h vs ds) (k : h.StaysIn h') : RepAll O h' vs ds := x.imp fun a o e n _ => ⟨k a o e, n⟩
theorem Rep.less (x : Rep O h v d) (k : ∀ a, O' a → O a) : Rep O' h v d := x.imp fun _ _ e n _ => ⟨e, fun q => n (k _ q)⟩
theorem RepAll.less (x : RepAll O h vs ds) (k : ∀ a, O' a → O a) : RepAll O' h vs ds := x.imp fun _ _ e n _ => ⟨e, fun q => n (k _ q)⟩
theorem RepAll.length : ∀ {vs : List Value} {ds : List D}, RepAll O h vs ds → vs.length = ds.length
  | _, _, .nil => rfl
  | _, _, .cons _ r => by rw [List.length_cons, List.length_cons, r.length]
theorem RepAll.append : ∀ {vs : List Value} {ds : List D}, RepAll O h vs ds → RepAll O h ws es → RepAll O h (vs ++ ws) (ds ++ es)
  | _, _, .nil, k => k
  | _, _, .cons a r, k => .cons a (r.append k)
theorem RepAll.get : ∀ {vs : List Value} {ds : List D}, RepAll O h vs ds → ∀ {i : Nat} {d : D}, ds[i]? = some d → ∃ v, vs[i]? = some v ∧ Rep O h v d
  | _, _, .nil, _, _, e => by simp at e
  | v :: _, _, .cons a r, 0, d, e => ⟨v, rfl, by simp only [List.getElem?_cons_zero, Option.some.injEq] at e; exact e ▸ a⟩
  | _, _, .cons _ r, i + 1, _, e => by simp only [List.getElem?_cons_succ] at e ⊢; exact r.get e
theorem RepAll.take (n : Nat) : ∀ {vs : List Value} {ds : List D}, RepAll O h vs ds → RepAll O h (vs.take n) (ds.take n) := by
  induction n with
  | zero => intro _ _ _; exact .nil
  | succ n ih =>
    intro vs ds x
    cases x with
    | nil => exact .nil
    | cons a r => exact .cons a (ih r)
theorem RepAll.drop (n : Nat) : ∀ {vs : List Value} {ds : List D}, RepAll O h vs ds → RepAll O h (vs.drop n) (ds.drop n) := by
  induction n with
  | zero => intro _ _ x; exact x
  | succ n ih =>
    intro vs ds x
    cases x with
    | nil => exact .nil
    | cons a r => exact ih r
theorem RepAll.reps (n : Nat) (x : RepAll O h vs ds) : RepAll O h (List.replicate n vs).flatten (List.replicate n ds).flatten := by
  induction n with
  | zero => exact .nil
  | succ n ih => rw [List.replicate_succ, List.replicate_succ, List.flatten_cons, List.flatten_cons]; exact x.append ih
end

mutual
noncomputable def toPy : D → PyData
  | .none => .none
  | .bool b => .bool b
  | .int i => .int i
  | .str n => .str (strOf n)
  | .tup l => .tuple (toPys l)
  | .lst l => .list (toPys l)
  | .no => .none
  | .own _ => .none
noncomputable def toPys : List D → List PyData
  | [] => []
  | d :: r => toPy d :: toPys r
end
mutual
theorem Rep.reads {O : Addr → Prop} {h h' : Heap} (k : h.UpToSlots h') : ∀ {v : Value} {d : D}, Rep O h v d → ∃ as, Reads h' v (toPy d) as
  | _, _, .none => ⟨_, .none⟩
  | _, _, .bool b => ⟨_, .bool b⟩
  | _, _, .int i t => ⟨_, .int i t⟩
  | _, _, .str n t _ => ⟨_, .str _ t⟩
  | _, _, .tup e _ c d r => by
    obtain ⟨sl, e'⟩ := k _ _ e (fun vs q => by rw [d] at q; cases q)
    obtain ⟨as, q⟩ := RepAll.reads k r
    exact ⟨_, by rw [toPy]; exact .tuple e' c d q⟩
  | _, _, .lst e _ r => by
    obtain ⟨sl, e'⟩ := k _ _ e (fun vs q => by cases q)
    obtain ⟨as, q⟩ := RepAll.reads k r
    exact ⟨_, by rw [toPy]; exact .list e' rfl rfl q⟩
theorem RepAll.reads {O : Addr → Prop} {h h' : Heap} (k : h.UpToSlots h') : ∀ {vs : List Value} {ds : List D}, RepAll O h vs ds → ∃ as, ReadsAll h' vs (toPys ds) as
  | _, _, .nil => ⟨_, .nil⟩
  | _, _, .cons a r => by
    obtain ⟨as, q⟩ := Rep.reads k a
    obtain ⟨bs, p⟩ := RepAll.reads k r
    exact ⟨_, by rw [toPys]; exact .cons q p⟩
end

/-- the state grown: nothing that stood is changed -/
structure Ext (s s' : Shared) : Prop where
  stays : s.heap.StaysIn s'.heap
  eq : s' = { s with heap := s'.heap, toks := s'.toks }
structure UExt (s s' : Shared) : Prop where
  up : s.heap.UpToSlots s'.heap
  eq : s' = { s with heap := s'.heap, toks := s'.toks }
theorem Ext.refl (s : Shared) : Ext s s := ⟨fun _ _ e => e, rfl⟩
theorem Ext.tok (s : Shared) (n : Nat) : Ext s { s with toks := n } := ⟨fun _ _ e => e, rfl⟩
theorem Ext.heap {s : Shared} {h : Heap} (k : s.heap.StaysIn h) (n : Nat) : Ext s { s with heap := h, toks := n } := ⟨k, rfl⟩
theorem Ext.heap' {s : Shared} {h : Heap} (k : s.heap.StaysIn h) : Ext s { s with heap := h } := ⟨k, rfl⟩
theorem Ext.push (s : Shared) (o : Obj) : Ext s { s with heap := s.heap.push o } := ⟨fun _ _ e => Heap.get?_push_of_some o e, rfl⟩
theorem Ext.trans {s s' s'' : Shared} (a : Ext s s') (b : Ext s' s'') : Ext s s'' := ⟨fun x o e => b.stays x o (a.stays x o e), by rw [b.eq, a.eq]⟩
theorem Ext.up {s s' s'' : Shared} (a : Ext s s') (b : UExt s' s'') : UExt s s'' := ⟨(Heap.UpToSlots.of_keeps a.stays).trans b.up, by rw [b.eq, a.eq]⟩

inductive Fn where
  | gcd_ | bits_of_ | root_of_ | rat_ | radd_ | rsub_ | rmul_ | rdiv_ | rinv_ | rpower_ | is_vast_ | rcompare_ | cut_ | let_ | sadd_ | sscale_ | mixed_ | smul_ | sinverse_ | sderive_ | sintegrate_ | need_begin_ | sexp_ | slog_ | ssin_cos_ | ssin_ | scos_ | satan_ | spower_ | swhole_power_ | lplain_ | ladd_ | lmul_ | ltrim_ | linverse_ | lpower_ | lcut_ | exact_root_ | from_zero_ | of_call_ | of_root_ | of_power_ | of_sum_ | of_term_ | laurent_of_ | series_of_ | t_num_ | t_sym_ | t_sum_ | t_prod_ | t_pow_ | t_call_ | t_quotient_ | law_draw_ | law_part_ | law_lowest_ | law_plus_ | law_cauchy_ | law_told_ | law_deeds_right_ | law_quotient_right_
  deriving DecidableEq
noncomputable def fnStr : Fn → String
  | .gcd_ => "gcd"
  | .bits_of_ => "bits_of"
  | .root_of_ => "root_of"
  | .rat_ => "rat"
  | .radd_ => "radd"
  | .rsub_ => "rsub"
  | .rmul_ => "rmul"
  | .rdiv_ => "rdiv"
  | .rinv_ => "rinv"
  | .rpower_ => "rpower"
  | .is_vast_ => "is_vast"
  | .rcompare_ => "rcompare"
  | .cut_ => "cut"
  | .let_ => "let"
  | .sadd_ => "sadd"
  | .sscale_ => "sscale"
  | .mixed_ => "mixed"
  | .smul_ => "smul"
  | .sinverse_ => "sinverse"
  | .sderive_ => "sderive"
  | .sintegrate_ => "sintegrate"
  | .need_begin_ => "need_begin"
  | .sexp_ => "sexp"
  | .slog_ => "slog"
  | .ssin_cos_ => "ssin_cos"
  | .ssin_ => "ssin"
  | .scos_ => "scos"
  | .satan_ => "satan"
  | .spower_ => "spower"
  | .swhole_power_ => "swhole_power"
  | .lplain_ => "lplain"
  | .ladd_ => "ladd"
  | .lmul_ => "lmul"
  | .ltrim_ => "ltrim"
  | .linverse_ => "linverse"
  | .lpower_ => "lpower"
  | .lcut_ => "lcut"
  | .exact_root_ => "exact_root"
  | .from_zero_ => "from_zero"
  | .of_call_ => "of_call"
  | .of_root_ => "of_root"
  | .of_power_ => "of_power"
  | .of_sum_ => "of_sum"
  | .of_term_ => "of_term"
  | .laurent_of_ => "laurent_of"
  | .series_of_ => "series_of"
  | .t_num_ => "t_num"
  | .t_sym_ => "t_sym"
  | .t_sum_ => "t_sum"
  | .t_prod_ => "t_prod"
  | .t_pow_ => "t_pow"
  | .t_call_ => "t_call"
  | .t_quotient_ => "t_quotient"
  | .law_draw_ => "_law_draw"
  | .law_part_ => "_law_part"
  | .law_lowest_ => "_law_lowest"
  | .law_plus_ => "_law_plus"
  | .law_cauchy_ => "_law_cauchy"
  | .law_told_ => "_law_told"
  | .law_deeds_right_ => "_law_deeds_right"
  | .law_quotient_right_ => "_law_quotient_right"
structure Gl where
  prog : Program
  w : World
  hB : Heap
  mg : Str → Option Value
  mb : Str → Option Value
  Fly : List Env → Nat → Addr → Heap → Prop
  fa : Fn → Addr
structure Gl.OK (G : Gl) : Prop where
  g : G.hB.Ns mainGlobals G.mg
  b : G.hB.Ns builtinsNs G.mb
  nolimit : G.hB.NoLimit
  fn : ∀ f : Fn, G.mg (Str.ofString (fnStr f)) = some (.ref (G.fa f)) ∧ ∃ o fd, G.hB.get? (G.fa f) = some o ∧ o.data = .func fd
  const : ∀ p ∈ constTab, ∃ v, G.mg (Str.ofString p.1) = some v ∧ Rep (fun _ => False) G.hB v p.2
  blt : ∀ p ∈ bltTab, G.mg (Str.ofString p.1) = none ∧ G.mb (Str.ofString p.1) = some p.2
structure Act where
  A : Around
  outer : List Env
  h₀ : Heap
  L : Addr
  fenv : Env
structure Act.OK (G : Gl) (c : Act) (n : Nat) : Prop where
  stack : c.A.frames = some (c.fenv :: c.outer)
  stays : G.hB.StaysIn c.h₀
  frames : c.h₀.FunFrames G.hB c.outer
  hf : c.fenv.frame = some c.L
  hke : c.fenv.scope.kind = .function
  hh : c.A.handled = none
  depth : c.A.depth + n < recursionLimit
  units : c.A.units + 8 * n + 100 < cLine

structure Conts (G : Gl) (c : Act) {β α : Type} (Rel : Heap → β → α → Prop) (s : Shared) (x : R α) (Q : β → Shared → Prop) (E : Value → Shared → Prop) : Prop where
  ok : ∀ a, x = .ok a → ∀ b s', Ext s s' → Rel s'.heap b a → Q b s'
  rz : ∀ k, x = .rz k → ∀ e s', UExt s s' → G.Fly (c.fenv :: c.outer) k e s'.heap → E (.ref e) s'
  ns : x ≠ .st
noncomputable def SpT (G : Gl) (c : Act) {β α : Type} (Rel : Heap → β → α → Prop) (s : Shared) (T : (β → Shared → Prop) → (Value → Shared → Prop) → Shared → Prop) (x : R α) : Prop :=
  ∀ Q E, Conts G c Rel s x Q E → T Q E s
noncomputable abbrev Sp (G : Gl) (c : Act) {β α : Type} (Rel : Heap → β → α → Prop) (s : Shared) (t : Sem β) (x : R α) : Prop := SpT G c Rel s (wpAny (model G.prog G.w) c.A t) x

section
variable {G : Gl} {c : Act} {s : Shared}
theorem sp_seq {β α β' α' : Type} {Rel : Heap → β → α → Prop} {Rel' : Heap → β' → α' → Prop} {t : Sem β} {T : β → (β' → Shared → Prop) → (Value → Shared → Prop) → Shared → Prop} {x : R α} {f : α → R α'}
    (h1 : Sp G c Rel s t x) (h2 : ∀ a b s', x = .ok a → Ext s s' → Rel s'.heap b a → SpT G c Rel' s' (T b) (f a)) :
    SpT G c Rel' s (fun Q E s => wpAny (model G.prog G.w) c.A t (fun b s' => T b Q E s') E s) (x.bind f) := by
  intro Q E C
  refine h1 _ _ ⟨fun a e b s' k r => h2 a b s' e k r _ _ ⟨fun a' e' b' s'' k' r' => ?_, fun k' e' x' s'' u' f' => ?_, fun e' => ?_⟩, fun k e x' s' u f => ?_, fun e => ?_⟩
  · exact C.ok a' (by rw [e]; exact e') b' s'' (k.trans k') r'
  · exact C.rz k' (by rw [e]; exact e') x' s'' (k.up u') f'
  · exact C.ns (by rw [e]; exact e')
  · exact C.rz k (by rw [e]; rfl) x' s' u f
  · exact C.ns (by rw [e]; rfl)
theorem Conts.ret {β α : Type} {Rel : Heap → β → α → Prop} {a : α} {Q : β → Shared → Prop} {E : Value → Shared → Prop} (C : Conts G c Rel s (.ok a) Q E) {b : β} (r : Rel s.heap b a) : Q b s := C.ok a rfl b s (.refl s) r
theorem Conts.retT {β α : Type} {Rel : Heap → β → α → Prop} {a : α} {Q : β → Shared → Prop} {E : Value → Shared → Prop} (C : Conts G c Rel s (.ok a) Q E) {b : β} {n : Nat} (r : Rel s.heap b a) : Q b { s with toks := n } := C.ok a rfl b _ (.tok s n) r
theorem sp_st {β α : Type} {Rel : Heap → β → α → Prop} {T : (β → Shared → Prop) → (Value → Shared → Prop) → Shared → Prop} : SpT (α := α) G c Rel s T .st := fun _ _ C => absurd rfl C.ns
end

noncomputable def VarAt (env : Env) (h : Heap) (x : Str) (v : Value) : Prop :=
  (env.kindOf x = some .local ∧ ∃ m, h.Ns env.locals m ∧ m x = some v) ∨
  (env.kindOf x = some .cell ∧ ∃ a, env.cells.lookup x = some a ∧ h.IsCell a (some v)) ∨
  (env.kindOf x = some .free ∧ ∃ a, env.cells.lookup x = some a ∧ h.IsCell a (some v))
theorem VarAt.stays {env : Env} {h h' : Heap} {x : Str} {v : Value} (k : h.StaysIn h') : VarAt env h x v → VarAt env h' x v
  | .inl ⟨a, m, n, e⟩ => .inl ⟨a, m, n.keeps k, e⟩
  | .inr (.inl ⟨a, b, e, o, ho, hd⟩) => .inr (.inl ⟨a, b, e, o, k _ _ ho, hd⟩)
  | .inr (.inr ⟨a, b, e, o, ho, hd⟩) => .inr (.inr ⟨a, b, e, o, k _ _ ho, hd⟩)

structure EnvOK (env : Env) : Prop where
  kind : env.scope.kind = .function
  globals : env.globals = mainGlobals
  builtins : env.builtins = builtinsNs

noncomputable def VRep (env : Env) (O : Addr → Prop) (h : Heap) (x : Str) : D → Prop
  | .no => True
  | .own l => ∃ a vs n, VarAt env h x (.ref a) ∧ O a ∧ h.get? a = some { cls := .type "list", data := .seq vs n } ∧ RepAll O h vs.toList l
  | d => ∃ v, VarAt env h x v ∧ Rep O h v d
theorem VRep.stays {env : Env} {O : Addr → Prop} {h h' : Heap} {x : Str} {d : D} (k : h.StaysIn h') (y : VRep env O h x d) : VRep env O h' x d := by
  cases d with
  | no => trivial
  | own l => obtain ⟨a, vs, n, b, o, g, r⟩ := y; exact ⟨a, vs, n, b.stays k, o, k _ _ g, r.stays k⟩
  | _ => obtain ⟨v, a, r⟩ := y; exact ⟨v, a.stays k, r.stays k⟩
noncomputable def Vars (env : Env) (names : List Str) (O : Addr → Prop) (h : Heap) (ρ : List D) : Prop := ∀ (i : Nat) (x : Str) (d : D), names[i]? = some x → ρ[i]? = some d → VRep env O h x d

structure Pre (G : Gl) (c : Act) (O : Addr → Prop) (env : Env) (names : List Str) (ρ : List D) (s : Shared) : Prop where
  F : ∃ m, Fr c.h₀ c.L s.heap m
  oB : ∀ a, O a → G.hB.get? a = none
  oe : ∀ a, O a → ∃ o, s.heap.get? a = some o
  V : Vars env names O s.heap ρ
theorem Pre.ext {G : Gl} {c : Act} {O : Addr → Prop} {env : Env} {names : List Str} {ρ : List D} {s s' : Shared} (p : Pre G c O env names ρ s) (k : Ext s s') : Pre G c O env names ρ s' where
  F := let ⟨m, F⟩ := p.F; ⟨m, F.keeps k.stays⟩
  oB := p.oB
  oe := fun a h => let ⟨o, e⟩ := p.oe a h; ⟨o, k.stays _ _ e⟩
  V := fun i x d h1 h2 => (p.V i x d h1 h2).stays k.stays

noncomputable def ESim (G : Gl) (c : Act) (env : Env) (names : List Str) (e : Expr) (g : List D → R D) : Prop :=
  ∀ O ρ s, Pre G c O env names ρ s → Sp G c (Rep O) s (eval e env) (g ρ)
noncomputable def TSim (G : Gl) (c : Act) (env : Env) (names : List Str) (e : Expr) (g : List D → R Bool) : Prop :=
  ∀ O ρ s, Pre G c O env names ρ s → Sp G c (fun _ (b a : Bool) => b = a) s (isTrue e env (eval e env)) (g ρ)
noncomputable def LSim (G : Gl) (c : Act) (env : Env) (names : List Str) (es : List Expr) (g : List D → R (List D)) : Prop :=
  ∀ O ρ s pos, Pre G c O env names ρ s → Sp G c (RepAll O) s (spliced (backTo pos (starEach es env))) (g ρ)
end Mine
end
section
open PySem PySem.W PyProof.Rows PySem.Calls PySem.Spec
namespace Mine

noncomputable def dep : Nat → D → Bool
  | 0, .tup _ => false
  | 0, .lst _ => false
  | n + 1, .tup l => l.all (dep n)
  | n + 1, .lst l => l.all (dep n)
  | _, _ => true
noncomputable def eqL (f : D → D → Bool) : List D → List D → Bool
  | [], [] => true
  | a :: r, b :: t => f a b && eqL f r t
  | _, _ => false
noncomputable def eqD : Nat → D → D → Bool
  | _, .int a, .int b => decide (a = b)
  | _, .str a, .str b => Nat.beq a b
  | n + 1, .tup l, .tup m => eqL (eqD n) l m
  | n + 1, .lst l, .lst m => eqL (eqD n) l m
  | _, .none, .none => true
  | _, .bool a, .bool b => a == b
  | _, .bool a, .int b => (if a then 1 else 0) == b
  | _, .int a, .bool b => a == (if b then 1 else 0)
  | _, _, _ => false

theorem strBeq {i j : Nat} (hi : i < sTab.length) (hj : j < sTab.length) : (strOf i == strOf j) = Nat.beq i j := by
  rw [strOf_inj i hi j hj]
  cases h : Nat.beq i j with
  | true => exact beq_iff_eq.mpr (Nat.eq_of_beq_eq_true h)
  | false => exact beq_eq_false_iff_ne.mpr (Nat.ne_of_beq_eq_false h)

theorem eqv_all {O O' : Addr → Prop} {h h' : Heap} (n : Nat) (ih : ∀ {v : Value} {d : D} {v' : Value} {d' : D}, Rep O h v d → Rep O' h' v' d' → dep n d = true → dep n d' = true → PyData.eqv (toPy d) (toPy d') = eqD n d d') :
    ∀ {vs : List Value} {ds : List D} {vs' : List Value} {ds' : List D}, RepAll O h vs ds → RepAll O' h' vs' ds' → ds.all (dep n) = true → ds'.all (dep n) = true → PyData.eqvAll (toPys ds) (toPys ds') = eqL (eqD n) ds ds'
  | _, _, _, _, .nil, .nil, _, _ => rfl
  | _, _, _, _, .nil, .cons _ _, _, _ => rfl
  | _, _, _, _, .cons _ _, .nil, _, _ => rfl
  | _, _, _, _, .cons a r, .cons b t, h1, h2 => by
    rw [List.all_cons, Bool.and_eq_true] at h1 h2
    rw [toPys, toPys, PyData.eqvAll, eqL, ih a b h1.1 h2.1, eqv_all n ih r t h1.2 h2.2]
theorem eqv_rep {O O' : Addr → Prop} {h h' : Heap} : ∀ (n : Nat) {v : Value} {d : D} {v' : Value} {d' : D}, Rep O h v d → Rep O' h' v' d' → dep n d = true → dep n d' = true → PyData.eqv (toPy d) (toPy d') = eqD n d d' := by
  intro n
  induction n with
  | zero =>
    intro v d v' d' a b h1 h2
    cases a <;> cases b <;> first | (simp [dep] at h1; done) | (simp [dep] at h2; done) | rfl | (rename_i i t k j u k'; exact strBeq k k') | (rename_i i t j u; simp only [toPy, PyData.eqv, eqD]; by_cases q : i = j <;> simp [q])
  | succ n ih =>
    intro v d v' d' a b h1 h2
    cases a <;> cases b <;> first | rfl | (rename_i i t k j u k'; exact strBeq k k') | (rename_i i t j u; simp only [toPy, PyData.eqv, eqD]; by_cases q : i = j <;> simp [q]; done) | (simp only [dep] at h1 h2; simp only [toPy, PyData.eqv, eqD]; exact eqv_all n (fun a b => ih a b) (by assumption) (by assumption) h1 h2)
mutual
theorem toPy_ok : ∀ d : D, (∃ O h v, Rep O h v d) → (toPy d).canLay0 = true
  | .none, _ => rfl
  | .no, _ => rfl
  | .bool _, _ => rfl
  | .int _, _ => rfl
  | .str n, ⟨O, h, v, r⟩ => by
    cases r with
    | str _ _ k =>
      have : ∀ i, i < sTab.length → PyData.strOk (strOf i) = true := by decide +kernel
      exact this n k
  | .own _, _ => rfl
  | .tup l, ⟨O, h, v, r⟩ => by
    cases r with
    | tup _ _ _ _ q => rw [toPy, PyData.canLay0]; exact toPys_ok l ⟨_, _, _, q⟩
  | .lst l, ⟨O, h, v, r⟩ => by
    cases r with
    | lst _ _ q => rw [toPy, PyData.canLay0]; exact toPys_ok l ⟨_, _, _, q⟩
theorem toPys_ok : ∀ l : List D, (∃ O h vs, RepAll O h vs l) → PyData.canLayAll0 (toPys l) = true
  | [], _ => rfl
  | d :: r, ⟨O, h, vs, q⟩ => by
    cases q with
    | cons a b => rw [toPys, PyData.canLayAll0, toPy_ok d ⟨_, _, _, a⟩, toPys_ok r ⟨_, _, _, b⟩]; rfl
end
theorem depth_all (n : Nat) (ih : ∀ d : D, dep n d = true → (toPy d).depth ≤ n) : ∀ l : List D, l.all (dep n) = true → PyData.depthAll (toPys l) ≤ n
  | [], _ => Nat.zero_le _
  | d :: r, h => by
    rw [List.all_cons, Bool.and_eq_true] at h
    rw [toPys, PyData.depthAll]
    exact Nat.max_le.mpr ⟨ih d h.1, depth_all n ih r h.2⟩
theorem depth_le : ∀ (n : Nat) (d : D), dep n d = true → (toPy d).depth ≤ n := by
  intro n
  induction n with
  | zero => intro d h; cases d <;> first | exact Nat.le_refl _ | (simp [dep] at h)
  | succ n ih =>
    intro d h
    cases d <;> first | exact Nat.zero_le _ | (simp only [dep] at h; simp only [toPy, PyData.depth]; exact Nat.succ_le_succ (depth_all n ih _ h))
theorem shaped_of {n : Nat} {d : D} (hn : n ≤ 64) (h : dep n d = true) {O : Addr → Prop} {hp : Heap} {v : Value} (r : Rep O hp v d) : SeqAt.shaped (toPy d) = true := by
  unfold SeqAt.shaped
  rw [toPy_ok d ⟨_, _, _, r⟩, Bool.true_and]
  exact decide_eq_true (Nat.le_trans (depth_le n d h) hn)

noncomputable def small (a : Int) : Bool := Nat.blt a.natAbs 18446744073709551616
theorem small_of {a : Int} (h : small a = true) : a.natAbs < 2 ^ 64 := by
  have := Nat.le_of_ble_eq_true h
  exact this
noncomputable def powI (a : Int) (n : Nat) : Int := match a with
  | .ofNat b => .ofNat (b ^ n)
  | a => a ^ n
theorem powI_eq (a : Int) (n : Nat) : powI a n = a ^ n := by
  cases a with
  | ofNat b => show ((b ^ n : Nat) : Int) = ((b : Nat) : Int) ^ n; rw [Int.natCast_pow]
  | negSucc b => rfl
noncomputable def opD : Operator → D → D → R D
  | .Add, .int a, .int b => .ok (.int (a + b))
  | .Sub, .int a, .int b => .ok (.int (a - b))
  | .Sub, .bool a, .bool b => .ok (.int (b2i a - b2i b))
  | .Mult, .int a, .int b => if (small a || small b) = true then .ok (.int (a * b)) else .st
  | .FloorDiv, .int a, .int b => if (b != 0 && Nat.blt b.natAbs.log2 9000) = true then .ok (.int (a.fdiv b)) else .st
  | .Mod, .int a, .int b => if (b != 0) = true then .ok (.int (a.fmod b)) else .st
  | .Pow, .int a, .int n => if (decide (0 ≤ n) && decide (n ≤ 1000000) && small a) = true then .ok (.int (powI a n.toNat)) else .st
  | .Add, .lst l, .lst m => if Nat.blt (l.length + m.length) 1000 = true then .ok (.lst (l ++ m)) else .st
  | .Mult, .lst l, .int n => if (decide (-1000 ≤ n) && decide (n ≤ 1000) && Nat.blt (l.length * n.toNat) 1000) = true then .ok (.lst (List.replicate n.toNat l).flatten) else .st
  | _, _, _ => .st
noncomputable def anyIs (n : Nat) (x : D) (l : List D) : Bool := l.any fun y => eqD n y x
noncomputable def cpD : CmpOp → D → D → R Bool
  | .Eq, a, b => if (dep 12 a && dep 12 b) = true then .ok (eqD 12 a b) else .st
  | .NotEq, a, b => if (dep 12 a && dep 12 b) = true then .ok (!eqD 12 a b) else .st
  | .Lt, .int a, .int b => .ok (decide (a < b))
  | .LtE, .int a, .int b => .ok (decide (a ≤ b))
  | .Gt, .int a, .int b => .ok (decide (b < a))
  | .GtE, .int a, .int b => .ok (decide (b ≤ a))
  | .In, a, .tup l => if (dep 12 a && l.all (dep 12)) = true then .ok (anyIs 12 a l) else .st
  | .NotIn, a, .tup l => if (dep 12 a && l.all (dep 12)) = true then .ok (!anyIs 12 a l) else .st
  | .Is, a, .none => .ok (match a with | .none => true | _ => false)
  | _, _, _ => .st

section
variable {G : Gl} {c : Act} {s : Shared} {O : Addr → Prop} {n : Nat}

theorem RepAll.isList {h : Heap} {a : Addr} {vs : Array Value} {k : Nat} (e : h.get? a = some { cls := .type "list", data := .seq vs k }) : h.IsList a vs := ⟨_, e, rfl, k, rfl⟩
/-- a new list is told -/
theorem rep_newL {h h' : Heap} (oe : ∀ a, O a → ∃ o, h.get? a = some o) {vs : Array Value} {ds : List D} {k : Nat} {o : Obj} (ho : o = { cls := .type "list", data := .seq vs k }) (e : h' = h.push o) (r : RepAll O h vs.toList ds) : Rep O h' (.ref h.objs.size) (.lst ds) := by
  subst ho e
  exact .lst (Heap.get?_push_size _ rfl) (fun q => by obtain ⟨o, e⟩ := oe _ q; exact absurd (Heap.lt_size e) (Nat.lt_irrefl _)) (r.stays fun _ _ e => Heap.get?_push_of_some _ e)
theorem rep_newT {h h' : Heap} (oe : ∀ a, O a → ∃ o, h.get? a = some o) {vs : Array Value} {ds : List D} {k : Nat} {o : Obj} (ho : o = { cls := .type "tuple", data := .seq vs k }) (e : h' = h.push o) (r : RepAll O h vs.toList ds) : Rep O h' (.ref h.objs.size) (.tup ds) := by
  subst ho e
  exact .tup (Heap.get?_push_size _ rfl) (fun q => by obtain ⟨o, e⟩ := oe _ q; exact absurd (Heap.lt_size e) (Nat.lt_irrefl _)) rfl rfl (r.stays fun _ _ e => Heap.get?_push_of_some _ e)

theorem add_listsM {A : Around} {E : Value → Shared → Prop} {l b : Addr} {vs ws : Array Value} {n k : Nat} {Q : Value → Shared → Prop} (ho : s.heap.get? l = some { cls := .type "list", data := .seq vs n }) (ho2 : s.heap.get? b = some { cls := .type "list", data := .seq ws k })
    (hsz : vs.size + ws.size ≤ sizeLine) (h : Q (.ref s.heap.objs.size) { s with heap := s.heap.push { cls := .type "list", data := .seq (vs ++ ws) } }) : wpAny (model G.prog G.w) A (binaryOp .Add (.ref l) (.ref b)) Q E s :=
  concat_meets ⟨_, ho, rfl⟩ ⟨_, ho2, rfl⟩ noFill_list_add seq_list_add PySem.F.slot_list_add PySem.F.entry_list_add (PySem.F.args_list_add_2 _ _) (list_addW l b vs ws n k none none #[] #[] hsz) ⟨ho, ho2, h⟩
theorem mul_listM {A : Around} {E : Value → Shared → Prop} {l : Addr} {vs : Array Value} {k : Nat} {x : Int} {u : Tok} {Q : Value → Shared → Prop} (ho : s.heap.get? l = some { cls := .type "list", data := .seq vs k })
    (hlo : -(2 ^ 63 : Int) ≤ x) (hhi : x < 2 ^ 63) (hsz : vs.size * x.toNat ≤ 2 ^ 24)
    (h : Q (.ref s.heap.objs.size) { s with heap := s.heap.push { cls := .type "list", data := .seq (List.replicate x.toNat vs.toList).flatten.toArray } }) : wpAny (model G.prog G.w) A (binaryOp .Mult (.ref l) (.int x u)) Q E s :=
  wpAny_binaryOp_repeat_ref (T := "list") (U := "int") (by decide) ⟨_, ho, rfl⟩ (fun s' => typeIs_int s' x u) noFill_list_mul F.fills_int_mul F.slot_int_rmul repeat_list F.slot_int_index.lookup
    (call_meets F.slot_int_rmul (typeIs_int s x u) F.entry_int_rmul (F.args_int_rmul_2 _ _) (lm_int_rmul_list_any x u l vs k none #[])
      ⟨ho, rfl, ⟨_, ho, rfl⟩, call_meets F.slot_list_mul ⟨_, ho, rfl⟩ F.entry_list_mul (F.args_list_mul_2 _ _)
        (lm_list_mul_any l vs k none #[] x u (by simp [Builtin.List.listFitsIndex]; omega) (by omega) (by simp [Builtin.List.listTooLong, sizeLine]; omega))
        ⟨ho, by rw [listMul_foldl_if]; exact h⟩⟩)

theorem sp_op (op : Operator) {v v' : Value} {d d' : D} (oe : ∀ a, O a → ∃ o, s.heap.get? a = some o) (r : Rep O s.heap v d) (r' : Rep O s.heap v' d') : Sp G c (Rep O) s (binaryOp op v v') (opD op d d') := by
  intro Q E C
  unfold opD at C
  split at C
  · cases r; cases r'; exact add_int (C.retT (.int _ _))
  · cases r; cases r'; exact sub_int (C.retT (.int _ _))
  · cases r; cases r'; exact sub_bool (C.retT (.int _ _))
  · cases r; cases r'
    split at C
    · rename_i q
      refine mul_int (C.retT (.int _ _)) ?_
      rcases Bool.or_eq_true_iff.mp q with q | q
      · exact IntMulOk.of_left (intBits_le (small_of q))
      · exact IntMulOk.of_right (intBits_le (small_of q))
    · exact absurd rfl C.ns
  · cases r; cases r'
    split at C
    · rename_i q
      rw [Bool.and_eq_true] at q
      exact floordiv_int (by simpa using q.1) (C.retT (.int _ _)) (.inl (PyProof.noPylong_of_log2 (Nat.le_of_ble_eq_true q.2)))
    · exact absurd rfl C.ns
  · cases r; cases r'
    split at C
    · rename_i q
      exact mod_int' (by simpa using q) (C.retT (.int _ _))
    · exact absurd rfl C.ns
  · cases r; cases r'
    split at C
    · rename_i q
      simp only [Bool.and_eq_true, decide_eq_true_eq] at q
      rw [powI_eq] at C
      exact pow_int_small q.1.1 q.1.2 (small_of q.2) (C.retT (.int _ _))
    · exact absurd rfl C.ns
  · split at C
    · rename_i q
      have q' := Nat.le_of_ble_eq_true q
      cases r with
      | lst e1 n1 a1 => cases r' with
        | lst e2 n2 a2 =>
          have l1 := a1.length
          have l2 := a2.length
          rw [Array.length_toList] at l1 l2
          refine add_listsM e1 e2 (by rw [sizeLine_eq]; omega) (C.ok _ rfl _ _ (.push _ _) (rep_newL oe rfl rfl (by rw [Array.toList_append]; exact a1.append a2)))
    · exact absurd rfl C.ns
  · split at C
    · rename_i q
      simp only [Bool.and_eq_true, decide_eq_true_eq] at q
      have q' := Nat.le_of_ble_eq_true q.2
      cases r with
      | lst e1 n1 a1 => cases r' with
        | int i t =>
          have l1 := a1.length
          rw [Array.length_toList] at l1
          refine mul_listM e1 (by omega) (by omega) (by rw [l1]; omega) (C.ok _ rfl _ _ (.push _ _) (rep_newL oe rfl rfl (by simpa using a1.reps _)))
    · exact absurd rfl C.ns
  · exact absurd rfl C.ns

theorem reads_here {h : Heap} {v : Value} {d : D} (r : Rep O h v d) : ∃ as, Reads h v (toPy d) as := r.reads (Heap.UpToSlots.refl h)
theorem any_eqv {O' : Addr → Prop} {h h' : Heap} {v : Value} {x : D} (rx : Rep O h v x) (hx : dep 12 x = true) : ∀ {vs : List Value} {l : List D}, RepAll O' h' vs l → l.all (dep 12) = true → ((toPys l).any fun y => PyData.eqv y (toPy x)) = anyIs 12 x l
  | _, _, .nil, _ => rfl
  | _, _, .cons a r, hl => by
    rw [List.all_cons, Bool.and_eq_true] at hl
    rw [toPys, List.any_cons, eqv_rep 12 a rx hl.1 hx, any_eqv rx hx r hl.2]; rfl
theorem sp_cmpU (hu : c.A.units + 64 < cLine) (op : CmpOp) {v v' : Value} {d d' : D} (r : Rep O s.heap v d) (r' : Rep O s.heap v' d') {Q : Value → Shared → Prop} {E : Value → Shared → Prop} (hns : cpD op d d' ≠ .st) (h : ∀ b, cpD op d d' = .ok b → Q (.bool b) s) :
    wpAny (model G.prog G.w) c.A (compareOp op v v') Q E s := by
  obtain ⟨as, q1⟩ := reads_here r
  obtain ⟨bs, q2⟩ := reads_here r'
  have hh := And.intro hns h
  clear hns h
  unfold cpD at hh
  split at hh
  · split at hh
    · rename_i q
      rw [Bool.and_eq_true] at q
      exact eq_dataH q1 q2 (shaped_of (by decide) q.1 r) (shaped_of (by decide) q.2 r') hu (by rw [eqv_rep 12 r r' q.1 q.2]; exact hh.2 _ rfl)
    · exact absurd rfl hh.1
  · split at hh
    · rename_i q
      rw [Bool.and_eq_true] at q
      exact ne_dataH q1 q2 (shaped_of (by decide) q.1 r) (shaped_of (by decide) q.2 r') hu (by rw [eqv_rep 12 r r' q.1 q.2]; exact hh.2 _ rfl)
    · exact absurd rfl hh.1
  · cases r; cases r'; exact lt_int (hh.2 _ rfl)
  · cases r; cases r'; exact le_int (hh.2 _ rfl)
  · cases r; cases r'; exact gt_int (hh.2 _ rfl)
  · cases r; cases r'; exact ge_int (hh.2 _ rfl)
  · split at hh
    · rename_i q
      rw [Bool.and_eq_true] at q
      cases r' with
      | tup e nO k1 k2 rl =>
        have hd := depth_all 12 (depth_le 12) _ q.2
        exact SeqAt.in_tuple_reads q2 q1 (toPys_ok _ ⟨_, _, _, rl⟩) (toPy_ok _ ⟨_, _, _, r⟩) (by exact Nat.lt_of_le_of_lt (Nat.add_le_add_left (Nat.le_trans (Nat.min_le_left _ _) hd) _) (by omega)) (by rw [any_eqv r q.1 rl q.2]; exact hh.2 _ rfl)
    · exact absurd rfl hh.1
  · split at hh
    · rename_i q
      rw [Bool.and_eq_true] at q
      cases r' with
      | tup e nO k1 k2 rl =>
        have hd := depth_all 12 (depth_le 12) _ q.2
        exact SeqAt.notIn_tuple_reads q2 q1 (toPys_ok _ ⟨_, _, _, rl⟩) (toPy_ok _ ⟨_, _, _, r⟩) (by exact Nat.lt_of_le_of_lt (Nat.add_le_add_left (Nat.le_trans (Nat.min_le_left _ _) hd) _) (by omega)) (by rw [any_eqv r q.1 rl q.2]; exact hh.2 _ rfl)
    · exact absurd rfl hh.1
  · cases r'
    refine is_none ?_
    cases r <;> exact hh.2 _ rfl
  · exact absurd rfl hh.1
theorem sp_cmp (ok : c.OK G n) (op : CmpOp) {v v' : Value} {d d' : D} (r : Rep O s.heap v d) (r' : Rep O s.heap v' d') {Q : Value → Shared → Prop} {E : Value → Shared → Prop} (hns : cpD op d d' ≠ .st) (h : ∀ b, cpD op d d' = .ok b → Q (.bool b) s) :
    wpAny (model G.prog G.w) c.A (compareOp op v v') Q E s := sp_cmpU (by have := ok.units; omega) op r r' hns h
end
end Mine
end
section
open PySem PySem.W PyProof.Rows PySem.Calls PySem.Spec
namespace Mine

noncomputable def nth : List D → Nat → D
  | [], _ => .no
  | a :: _, 0 => a
  | _ :: r, n + 1 => nth r n
noncomputable def vget : D → R D
  | .no => .st
  | .own _ => .st
  | d => .ok d
noncomputable abbrev C := List D → R D
noncomputable abbrev CB := List D → R Bool
noncomputable abbrev CL := List D → R (List D)
noncomputable def cV (i : Nat) : C := fun ρ => vget (nth ρ i)
noncomputable def cK (d : D) : C := fun _ => .ok d
noncomputable def cBin (op : Operator) (f g : C) : C := fun ρ => (f ρ).bind fun a => (g ρ).bind fun b => opD op a b
noncomputable def tCmp (op : CmpOp) (f g : C) : CB := fun ρ => (f ρ).bind fun a => (g ρ).bind fun b => cpD op a b
noncomputable def cCmp (op : CmpOp) (f g : C) : C := fun ρ => (f ρ).bind fun a => (g ρ).bind fun b => (cpD op a b).bind fun t => .ok (.bool t)
noncomputable def trD : D → R Bool
  | .bool b => .ok b
  | _ => .st
noncomputable def cAnd (f g : C) : C := fun ρ => (f ρ).bind fun a => (trD a).bind fun t => bif t then g ρ else .ok a
noncomputable def cOr (f g : C) : C := fun ρ => (f ρ).bind fun a => (trD a).bind fun t => bif t then .ok a else g ρ
noncomputable def tT : CB := fun _ => .ok true
noncomputable def tF : CB := fun _ => .ok false
noncomputable def tAnd (f g : CB) : CB := fun ρ => (f ρ).bind fun t => bif t then g ρ else .ok false
noncomputable def tOr (f g : CB) : CB := fun ρ => (f ρ).bind fun t => bif t then .ok true else g ρ
noncomputable def cIf (t : CB) (f g : C) : C := fun ρ => (t ρ).bind fun b => bif b then f ρ else g ρ
noncomputable def lNil : CL := fun _ => .ok []
noncomputable def lCons (f : C) (g : CL) : CL := fun ρ => (f ρ).bind fun a => (g ρ).bind fun l => .ok (a :: l)
noncomputable def shortL (l : List D) : Bool := Nat.blt l.length 1000
noncomputable def mkT (l : List D) : R D := if shortL l = true then .ok (.tup l) else .st
noncomputable def mkL (l : List D) : R D := if shortL l = true then .ok (.lst l) else .st
noncomputable def cTup (f : CL) : C := fun ρ => (f ρ).bind mkT
noncomputable def cLst (f : CL) : C := fun ρ => (f ρ).bind mkL
noncomputable def getD' (l : List D) (k : Nat) : R D := match Nat.blt k 1000, l[k]? with
  | true, some d => .ok d
  | _, _ => .st
noncomputable def itD : D → D → R D
  | .tup l, .int (.ofNat k) => getD' l k
  | .lst l, .int (.ofNat k) => getD' l k
  | _, _ => .st
noncomputable def cIt (f g : C) : C := fun ρ => (f ρ).bind fun a => (g ρ).bind fun b => itD a b
noncomputable def ownGet : D → R (List D)
  | .own l => .ok l
  | _ => .st
noncomputable def lstIt (l : List D) : D → R D
  | .int (.ofNat k) => getD' l k
  | _ => .st
noncomputable def cItO (i : Nat) (g : C) : C := fun ρ => (ownGet (nth ρ i)).bind fun l => (g ρ).bind fun b => lstIt l b
noncomputable def slTo : D → D → R D
  | .lst l, .int (.ofNat k) => if shortL l = true then .ok (.lst (l.take k)) else .st
  | _, _ => .st
noncomputable def slFrom (k : Nat) : D → R D
  | .lst l => if shortL l = true then .ok (.lst (l.drop k)) else .st
  | _ => .st
noncomputable def cSlTo (f g : C) : C := fun ρ => (f ρ).bind fun a => (g ρ).bind fun b => slTo a b
noncomputable def cSlFrom (f : C) (k : Nat) : C := fun ρ => (f ρ).bind fun a => slFrom k a

theorem nth_get : ∀ (ρ : List D) (i : Nat), nth ρ i = .no ∨ ρ[i]? = some (nth ρ i)
  | [], _ => .inl rfl
  | _ :: _, 0 => .inr rfl
  | _ :: r, n + 1 => nth_get r n

section
variable {G : Gl} {c : Act} {env : Env} {names : List Str} {n : Nat}

theorem load_at {s : Shared} {x : Str} {pos : Pos} {v : Value} {Q : Value → Shared → Prop} {E : Value → Shared → Prop} (eo : EnvOK env) (va : VarAt env s.heap x v) (hd : (x == ("__debug__" : Str)) = false) (hn : (x == ("__classdict__" : Str)) = false) (h : Q v s) :
    wpAny (model G.prog G.w) c.A (eval (.Name x pos) env) Q E s := by
  refine wpAny_Name ?_ hd
  rcases va with ⟨k, m, nm, e⟩ | ⟨k, a, e, i⟩ | ⟨k, a, e, i⟩
  · exact wpAny_loadName_local eo.kind k nm e h
  · exact wpAny_loadName_cell eo.kind k e i h
  · exact wpAny_loadName_free eo.kind k e i h hn

theorem sim_V {x : Str} {pos : Pos} (i : Nat) (hx : names[i]? = some x) (eo : EnvOK env) (hd : (x == ("__debug__" : Str)) = false) (hn : (x == ("__classdict__" : Str)) = false) : ESim G c env names (.Name x pos) (cV i) := by
  intro O ρ s p Q E C
  rcases nth_get ρ i with e | e
  · rw [cV, e] at C; exact absurd rfl C.ns
  · have v := p.V i x _ hx e
    unfold cV vget at C
    split at C
    · exact absurd rfl C.ns
    · exact absurd rfl C.ns
    · rename_i d h1 h2
      have : ∃ v, VarAt env s.heap x v ∧ Rep O s.heap v (nth ρ i) := by
        unfold VRep at v
        split at v
        · rename_i q; exact absurd q h1
        · rename_i l q; exact absurd q (h2 l)
        · exact v
      obtain ⟨v, va, r⟩ := this
      exact load_at eo va hd hn (C.ret r)

theorem sim_K_int {i : Int} {k : Nat} {pos : Pos} : ESim G c env names (.Constant (.int i) k pos) (cK (.int i)) := fun _ _ _ _ _ _ C => wpAny_Constant_int (C.retT (.int _ _))
theorem sim_K_none {k : Nat} {pos : Pos} : ESim G c env names (.Constant .none k pos) (cK .none) := fun _ _ _ _ _ _ C => wpAny_Constant_none (C.ret .none)
theorem sim_K_bool {b : Bool} {k : Nat} {pos : Pos} : ESim G c env names (.Constant (.bool b) k pos) (cK (.bool b)) := fun _ _ _ _ _ _ C => wpAny_Constant_bool (C.ret (.bool b))
theorem sim_K_str {x : Str} {k : Nat} {pos : Pos} (j : Nat) (hj : j < sTab.length) (hx : x = strOf j) : ESim G c env names (.Constant (.str x) k pos) (cK (.str j)) := by
  subst hx
  exact fun _ _ _ _ _ _ C => wpAny_Constant_str (C.retT (.str _ _ hj))
theorem sim_neg {i : Int} {k : Nat} {p1 pos : Pos} : ESim G c env names (.UnaryOp .USub (.Constant (.int i) k p1) pos) (cK (.int (-i))) := by
  intro O ρ s p Q E C
  refine UnaryOp_ (wpAny_Constant_int ?_)
  exact neg_int (C.ok _ rfl _ _ ((Ext.tok _ _).trans (.tok _ _)) (.int _ _))

theorem sim_G (eo : EnvOK env) (ok : G.OK) (co : c.OK G n) {x : String} {d : D} {pos : Pos} (hx : (x, d) ∈ constTab) (hk : env.kindOf (Str.ofString x) = some .globalImplicit) (hd : (Str.ofString x == ("__debug__" : Str)) = false) :
    ESim G c env names (.Name (Str.ofString x) pos) (cK d) := by
  intro O ρ s p Q E C
  obtain ⟨v, e, r⟩ := ok.const _ hx
  obtain ⟨m, F⟩ := p.F
  have st : G.hB.StaysIn s.heap := fun b o q => F.keep b o (co.stays b o q)
  refine Name_function_global eo.kind hk (loadGlobal_global (by rw [eo.globals]; exact ok.g.keeps st) e (C.ret ?_)) hd
  exact r.imp fun a o q _ _ => ⟨st a o q, fun z => by have := p.oB a z; rw [this] at q; cases q⟩

theorem sim_Bin {op : Operator} {l r : Expr} {pos : Pos} {f g : C} (hl : ESim G c env names l f) (hr : ESim G c env names r g) : ESim G c env names (.BinOp l op r pos) (cBin op f g) := by
  intro O ρ s p Q E C
  refine wpAny_BinOp (sp_seq (T := fun a Q E s₁ => wpAny (model G.prog G.w) c.A (eval r env) (fun b s₂ => wpAny (model G.prog G.w) c.A (binaryOp op a b) Q E s₂) E s₁) (hl O ρ s p) (fun a v s₁ ha k₁ ra => ?_) Q E C)
  refine sp_seq (T := fun b Q E s₂ => wpAny (model G.prog G.w) c.A (binaryOp op v b) Q E s₂) (hr O ρ s₁ (p.ext k₁)) fun b v' s₂ _ k₂ rb => ?_
  exact sp_op op ((p.ext k₁).ext k₂).oe (ra.stays k₂.stays) rb

theorem sim_Cmp (co : c.OK G n) {op : CmpOp} {l r : Expr} {pos : Pos} {f g : C} (hl : ESim G c env names l f) (hr : ESim G c env names r g) (hm : behindInMarks op r = false) : ESim G c env names (.Compare l [op] [r] pos) (cCmp op f g) := by
  intro O ρ s p Q E C
  refine wpAny_Compare1 (sp_seq (T := fun a Q E s₁ => wpAny (model G.prog G.w) c.A (eval r env) (fun b s₂ => wpAny (model G.prog G.w) c.A (compareOp op a b) Q E s₂) E s₁) (hl O ρ s p) (fun a v s₁ ha k₁ ra => ?_) Q E C) hm
  refine sp_seq (T := fun b Q E s₂ => wpAny (model G.prog G.w) c.A (compareOp op v b) Q E s₂) (hr O ρ s₁ (p.ext k₁)) fun b v' s₂ _ k₂ rb => ?_
  intro Q E C
  refine sp_cmp co op (ra.stays k₂.stays) rb (fun e => C.ns (by rw [e]; rfl)) fun t e => C.ok _ (by rw [e]; rfl) _ _ (.refl _) (.bool _)
theorem simT_Cmp (co : c.OK G n) {op : CmpOp} {l r : Expr} {pos : Pos} {f g : C} (hl : ESim G c env names l f) (hr : ESim G c env names r g) (hm : behindInMarks op r = false) : TSim G c env names (.Compare l [op] [r] pos) (tCmp op f g) := by
  intro O ρ s p Q E C
  refine wpAny_isTrue_Compare1 (sp_seq (T := fun a Q E s₁ => wpAny (model G.prog G.w) c.A (eval r env) (fun b s₂ => wpAny (model G.prog G.w) c.A (compareOp op a b) (fun c' s₃ => wpAny (model G.prog G.w) c.A (truthy c') Q E s₃) E s₂) E s₁) (hl O ρ s p) (fun a v s₁ ha k₁ ra => ?_) Q E C) hm
  refine sp_seq (T := fun b Q E s₂ => wpAny (model G.prog G.w) c.A (compareOp op v b) (fun c' s₃ => wpAny (model G.prog G.w) c.A (truthy c') Q E s₃) E s₂) (hr O ρ s₁ (p.ext k₁)) fun b v' s₂ _ k₂ rb => ?_
  intro Q E C
  exact sp_cmp co op (ra.stays k₂.stays) rb C.ns fun t e => wpAny_truthy_bool (C.ok _ e _ _ (.refl _) rfl)

theorem sp_truthy {s : Shared} {O : Addr → Prop} {v : Value} {d : D} (r : Rep O s.heap v d) : Sp G c (fun _ (b a : Bool) => b = a) s (truthy v) (trD d) := by
  intro Q E C
  cases r <;> first | exact wpAny_truthy_bool (C.ret rfl) | exact absurd rfl C.ns

theorem sim_BoolOne {op : BoolOp} {e : Expr} {pos : Pos} {f : C} (h : ESim G c env names e f) : ESim G c env names (.BoolOp op [e] pos) f := fun O ρ s p Q E C => BoolOp_one (h O ρ s p Q E C)
theorem sim_And {e₁ e₂ : Expr} {rest : List Expr} {pos : Pos} {f g : C} (h1 : ESim G c env names e₁ f) (h2 : ESim G c env names (.BoolOp .And (e₂ :: rest) pos) g) : ESim G c env names (.BoolOp .And (e₁ :: e₂ :: rest) pos) (cAnd f g) := by
  intro O ρ s p Q E C
  refine BoolOp_and (sp_seq (T := fun v Q E s₁ => wpAny (model G.prog G.w) c.A (truthy v) (fun t s₂ => if t then wpAny (model G.prog G.w) c.A (eval (.BoolOp .And (e₂ :: rest) pos) env) Q E s₂ else Q v s₂) E s₁) (h1 O ρ s p) (fun a v s₁ ha k₁ ra => ?_) Q E C)
  refine sp_seq (T := fun t Q E s₂ => if t then wpAny (model G.prog G.w) c.A (eval (.BoolOp .And (e₂ :: rest) pos) env) Q E s₂ else Q v s₂) (sp_truthy ra) fun t b s₂ _ k₂ e => ?_
  subst e
  intro Q E C
  cases b with
  | true => exact h2 O ρ s₂ ((p.ext k₁).ext k₂) Q E C
  | false => exact C.ret (ra.stays k₂.stays)
theorem sim_Or {e₁ e₂ : Expr} {rest : List Expr} {pos : Pos} {f g : C} (h1 : ESim G c env names e₁ f) (h2 : ESim G c env names (.BoolOp .Or (e₂ :: rest) pos) g) : ESim G c env names (.BoolOp .Or (e₁ :: e₂ :: rest) pos) (cOr f g) := by
  intro O ρ s p Q E C
  refine BoolOp_or (sp_seq (T := fun v Q E s₁ => wpAny (model G.prog G.w) c.A (truthy v) (fun t s₂ => if t then Q v s₂ else wpAny (model G.prog G.w) c.A (eval (.BoolOp .Or (e₂ :: rest) pos) env) Q E s₂) E s₁) (h1 O ρ s p) (fun a v s₁ ha k₁ ra => ?_) Q E C)
  refine sp_seq (T := fun t Q E s₂ => if t then Q v s₂ else wpAny (model G.prog G.w) c.A (eval (.BoolOp .Or (e₂ :: rest) pos) env) Q E s₂) (sp_truthy ra) fun t b s₂ _ k₂ e => ?_
  subst e
  intro Q E C
  cases b with
  | true => exact C.ret (ra.stays k₂.stays)
  | false => exact h2 O ρ s₂ ((p.ext k₁).ext k₂) Q E C
theorem simT_AndNil {pos : Pos} : TSim G c env names (.BoolOp .And [] pos) tT := fun _ _ _ _ _ _ C => isTrue_and_nil (C.ret rfl)
theorem simT_OrNil {pos : Pos} : TSim G c env names (.BoolOp .Or [] pos) tF := fun _ _ _ _ _ _ C => isTrue_or_nil (C.ret rfl)
theorem isTrue_whole {e : Expr} {op : BoolOp} {rest : List Expr} {pos : Pos} {w w' : Sem Value} : isTrue (.BoolOp op rest pos) env w = isTrue (.BoolOp op rest pos) env w' := rfl
theorem simT_And {x : Expr} {rest : List Expr} {pos : Pos} {f g : CB} (h1 : TSim G c env names x f) (h2 : TSim G c env names (.BoolOp .And rest pos) g) : TSim G c env names (.BoolOp .And (x :: rest) pos) (tAnd f g) := by
  intro O ρ s p Q E C
  refine isTrue_and (sp_seq (T := fun t Q E s₁ => if t then wpAny (model G.prog G.w) c.A (isTrue (.BoolOp .And rest pos) env (eval (.BoolOp .And (x :: rest) pos) env)) Q E s₁ else Q false s₁) (h1 O ρ s p) (fun t b s₁ _ k₁ e => ?_) Q E C)
  subst e
  intro Q E C
  cases b with
  | true => exact h2 O ρ s₁ (p.ext k₁) Q E C
  | false => exact C.ret rfl
theorem simT_Or {x : Expr} {rest : List Expr} {pos : Pos} {f g : CB} (h1 : TSim G c env names x f) (h2 : TSim G c env names (.BoolOp .Or rest pos) g) : TSim G c env names (.BoolOp .Or (x :: rest) pos) (tOr f g) := by
  intro O ρ s p Q E C
  refine isTrue_or (sp_seq (T := fun t Q E s₁ => if t then Q true s₁ else wpAny (model G.prog G.w) c.A (isTrue (.BoolOp .Or rest pos) env (eval (.BoolOp .Or (x :: rest) pos) env)) Q E s₁) (h1 O ρ s p) (fun t b s₁ _ k₁ e => ?_) Q E C)
  subst e
  intro Q E C
  cases b with
  | true => exact C.ret rfl
  | false => exact h2 O ρ s₁ (p.ext k₁) Q E C

theorem sim_If {t a b : Expr} {pos : Pos} {ft : CB} {f g : C} (ht : TSim G c env names t ft) (ha : ESim G c env names a f) (hb : ESim G c env names b g) : ESim G c env names (.IfExp t a b pos) (cIf ft f g) := by
  intro O ρ s p Q E C
  refine IfExp_ (sp_seq (T := fun t Q E s₁ => if t then wpAny (model G.prog G.w) c.A (eval a env) Q E s₁ else wpAny (model G.prog G.w) c.A (eval b env) Q E s₁) (ht O ρ s p) (fun t b s₁ _ k₁ e => ?_) Q E C)
  subst e
  intro Q E C
  cases b with
  | true => exact ha O ρ s₁ (p.ext k₁) Q E C
  | false => exact hb O ρ s₁ (p.ext k₁) Q E C

theorem simL_nil : LSim G c env names [] lNil := fun _ _ _ _ _ _ _ C => args_nil (C.ret .nil)
theorem simL_cons {e : Expr} {rest : List Expr} {f : C} {g : CL} (h1 : ESim G c env names e f) (h2 : LSim G c env names rest g) (he : starEach (e :: rest) env = (false, eval e env) :: starEach rest env) : LSim G c env names (e :: rest) (lCons f g) := by
  intro O ρ s pos p Q E C
  refine args_cons (sp_seq (T := fun v Q E s₁ => wpAny (model G.prog G.w) c.A (spliced (backTo pos (starEach rest env))) (fun vs s₂ => Q (v :: vs) s₂) E s₁) (h1 O ρ s p) (fun a v s₁ ha k₁ ra => ?_) Q E C) he
  exact sp_seq (T := fun vs Q E s₂ => Q (v :: vs) s₂) (h2 O ρ s₁ pos (p.ext k₁)) fun l vs s₂ _ k₂ rl Q E C => C.ret (.cons (ra.stays k₂.stays) rl)

theorem sim_Tup {es : List Expr} {k : Nat} {pos : Pos} {f : CL} (h : LSim G c env names es f) : ESim G c env names (.Tuple es k pos) (cTup f) := by
  intro O ρ s p Q E C
  refine wpAny_Tuple (sp_seq (T := fun vs Q E s₁ => vs.length ≤ sizeLine ∧ Q (.ref s₁.heap.objs.size) { s₁ with heap := s₁.heap.push { cls := .type "tuple", data := .seq vs.toArray } }) (h O ρ s pos p) (fun l vs s₁ _ k₁ rl => ?_) Q E C)
  intro Q E C
  unfold mkT at C
  split at C
  · rename_i q
    have := Nat.le_of_ble_eq_true q
    exact ⟨by rw [rl.length, sizeLine_eq]; omega, C.ok _ rfl _ _ (.push _ _) (rep_newT (p.ext k₁).oe rfl rfl (by simpa using rl))⟩
  · exact absurd rfl C.ns
theorem sim_Lst {es : List Expr} {pos : Pos} {f : CL} (h : LSim G c env names es f) : ESim G c env names (.List es pos) (cLst f) := by
  intro O ρ s p Q E C
  refine wpAny_List (sp_seq (T := fun vs Q E s₁ => vs.length ≤ sizeLine ∧ Q (.ref s₁.heap.objs.size) { s₁ with heap := s₁.heap.push { cls := .type "list", data := .seq vs.toArray } }) (h O ρ s pos p) (fun l vs s₁ _ k₁ rl => ?_) Q E C)
  intro Q E C
  unfold mkL at C
  split at C
  · rename_i q
    have := Nat.le_of_ble_eq_true q
    exact ⟨by rw [rl.length, sizeLine_eq]; omega, C.ok _ rfl _ _ (.push _ _) (rep_newL (p.ext k₁).oe rfl rfl (by simpa using rl))⟩
  · exact absurd rfl C.ns

theorem getD_of {l : List D} {k : Nat} {d : D} (e : getD' l k = .ok d) : k < 1000 ∧ l[k]? = some d := by
  unfold getD' at e
  split at e
  · rename_i h1 h2; cases e; exact ⟨Nat.le_of_ble_eq_true h1, h2⟩
  · cases e
theorem getD_st {l : List D} {k : Nat} (e : getD' l k ≠ .st) : ∃ d, getD' l k = .ok d := by
  unfold getD' at e ⊢
  split at e
  · exact ⟨_, rfl⟩
  · exact absurd rfl e

noncomputable def Subs (slice : Expr) : Prop := ∀ o i, ∃ ops, subscripted slice false o i = operate ops (getItem o i)

theorem sp_it {s : Shared} {O : Addr → Prop} {value slice : Expr} {v i : Value} {d k : D} (r : Rep O s.heap v d) (ri : Rep O s.heap i k) (hs : Subs slice) : Sp G c (Rep O) s (subscriptTail value slice v i) (itD d k) := by
  intro Q E C
  obtain ⟨ops, ho⟩ := hs v i
  unfold itD at C
  split at C
  · rename_i l k
    obtain ⟨d, e⟩ := getD_st C.ns
    obtain ⟨hk, hl⟩ := getD_of e
    rw [e] at C
    cases r with
    | tup e1 n1 c1 d1 a1 =>
      cases ri
      obtain ⟨y, hy, ry⟩ := a1.get hl
      have hT : IsTup s.heap _ _ := ⟨_, e1, c1, _, d1⟩
      have hlt : k < (Array.toList _).length := (List.getElem?_eq_some_iff.mp hy).1
      rw [Array.length_toList] at hlt
      refine tail_any hT.typeIs slot_tuple_getitem.lookup (getItem_tuple (j := k) hT (by show -(2 ^ 63) ≤ ((k : Nat) : Int); omega) (by show ((k : Nat) : Int) < 2 ^ 63; omega) ?_ (by rw [← Array.getElem?_toList]; exact hy) (C.ret ry)) ho
      exact seqIndex_of (k := ((k : Nat) : Int)) (by omega) (by omega)
  · rename_i l k
    obtain ⟨d, e⟩ := getD_st C.ns
    obtain ⟨hk, hl⟩ := getD_of e
    rw [e] at C
    cases r with
    | lst e1 n1 a1 =>
      cases ri
      obtain ⟨y, hy, ry⟩ := a1.get hl
      have hL := RepAll.isList e1
      exact tail_any hL.typeIs slot_list_getitem.lookup (wpAny_getItem_list hL (by show (0 : Int) ≤ ((k : Nat) : Int); omega) (by show ((k : Nat) : Int) < 2 ^ 63; omega) (by show _[k]? = _; rw [← Array.getElem?_toList]; exact hy) (C.ret ry)) ho
  · exact absurd rfl C.ns

theorem sim_It {value slice : Expr} {pos : Pos} {f g : C} (h1 : ESim G c env names value f) (h2 : ESim G c env names slice g) (hs : Subs slice) : ESim G c env names (.Subscript value slice pos) (cIt f g) := by
  intro O ρ s p Q E C
  refine Subscript_ (sp_seq (T := fun o Q E s₁ => wpAny (model G.prog G.w) c.A (eval slice env) (fun i s₂ => wpAny (model G.prog G.w) c.A (subscriptTail value slice o i) Q E s₂) E s₁) (h1 O ρ s p) (fun a v s₁ ha k₁ ra => ?_) Q E C)
  exact sp_seq (T := fun i Q E s₂ => wpAny (model G.prog G.w) c.A (subscriptTail value slice v i) Q E s₂) (h2 O ρ s₁ (p.ext k₁)) fun b i s₂ _ k₂ rb => sp_it (ra.stays k₂.stays) rb hs

theorem sim_ItO {x : Str} {slice : Expr} {np pos : Pos} {g : C} (j : Nat) (hx : names[j]? = some x) (eo : EnvOK env) (hd : (x == ("__debug__" : Str)) = false) (hn : (x == ("__classdict__" : Str)) = false) (h2 : ESim G c env names slice g) (hs : Subs slice) :
    ESim G c env names (.Subscript (.Name x np) slice pos) (cItO j g) := by
  intro O ρ s p Q E C
  cases hq : nth ρ j with
  | own l =>
    have e : ρ[j]? = some (.own l) := by
      rcases nth_get ρ j with q | q
      · rw [q] at hq; cases hq
      · rw [hq] at q; exact q
    obtain ⟨a, vs, nn, va, _, e1, a1⟩ := p.V j x _ hx e
    have C' : Conts G c (Rep O) s ((g ρ).bind fun b => lstIt l b) Q E := by unfold cItO at C; rw [hq] at C; exact C
    refine Subscript_ (load_at eo va hd hn ?_)
    refine sp_seq (T := fun i Q E s₂ => wpAny (model G.prog G.w) c.A (subscriptTail (.Name x np) slice (.ref a) i) Q E s₂) (h2 O ρ s p) (fun b i s₂ hb k₂ rb => ?_) Q E C'
    intro Q E C
    obtain ⟨ops, ho⟩ := hs (.ref a) i
    unfold lstIt at C
    split at C
    · rename_i k
      obtain ⟨d, e⟩ := getD_st C.ns
      obtain ⟨hk, hl⟩ := getD_of e
      rw [e] at C
      cases rb
      obtain ⟨y, hy, ry⟩ := (a1.stays k₂.stays).get hl
      have hL := RepAll.isList (k₂.stays _ _ e1)
      exact tail_any hL.typeIs slot_list_getitem.lookup (wpAny_getItem_list hL (by show (0 : Int) ≤ ((k : Nat) : Int); omega) (by show ((k : Nat) : Int) < 2 ^ 63; omega) (by show _[k]? = _; rw [← Array.getElem?_toList]; exact hy) (C.ret ry)) ho
    · exact absurd rfl C.ns
  | _ => unfold cItO at C; rw [hq] at C; exact absurd rfl C.ns

theorem sim_SlTo {value up : Expr} {p1 pos : Pos} {f g : C} (h1 : ESim G c env names value f) (h2 : ESim G c env names up g) (hs : Subs (.Slice none (some up) none p1)) : ESim G c env names (.Subscript value (.Slice none (some up) none p1) pos) (cSlTo f g) := by
  intro O ρ s p Q E C
  refine Subscript_ (sp_seq (T := fun o Q E s₁ => wpAny (model G.prog G.w) c.A (eval (.Slice none (some up) none p1) env) (fun i s₂ => wpAny (model G.prog G.w) c.A (subscriptTail value (.Slice none (some up) none p1) o i) Q E s₂) E s₁) (h1 O ρ s p) (fun a v s₁ ha k₁ ra => ?_) Q E C)
  clear C
  intro Q E C
  refine wpAny_Slice ?_
  rw [evalPart_none]
  refine wpAny_pure ?_
  rw [evalPart_some]
  refine sp_seq (T := fun u Q E s₂ => wpAny (model G.prog G.w) c.A (evalPart none env) (fun st s₃ => wpAny (model G.prog G.w) c.A (subscriptTail value (.Slice none (some up) none p1) v (.ref s₃.heap.objs.size)) Q E { s₃ with heap := s₃.heap.push { cls := .type "slice", data := .fields #[.none, u, st] } }) E s₂) (h2 O ρ s₁ (p.ext k₁)) (fun b u s₂ hb k₂ rb => ?_) Q E C
  clear C
  intro Q E C
  rw [evalPart_none]
  refine wpAny_pure ?_
  obtain ⟨ops, ho⟩ := hs v (.ref s₂.heap.objs.size)
  unfold slTo at C
  split at C
  · rename_i l k
    split at C
    · rename_i q
      have q' := Nat.le_of_ble_eq_true q
      cases rb with
      | int _ t =>
      cases ra with
      | lst e1 n1 a1 =>
        have e2 := Heap.get?_push_of_some { cls := .type "slice", data := .fields #[.none, .int (Int.ofNat k) t, .none] } (k₂.stays _ _ e1)
        have hL := RepAll.isList e2
        have hlen := a1.length
        rw [Array.length_toList] at hlen
        refine tail_any hL.typeIs slot_list_getitem.lookup (wpAny_getItem_list_slice hL (Heap.IsSliceOf.new ..) .none (.int _ _) .none (by simp) ?_ (by rw [hlen, sizeLine_eq]; omega)) ho
        refine C.ok _ rfl _ _ ((Ext.push _ _).trans (Ext.push _ _)) (rep_newL (fun a h => ?_) rfl rfl ?_)
        · obtain ⟨o, e⟩ := ((p.ext k₁).ext k₂).oe a h
          exact ⟨o, Heap.get?_push_of_some _ e⟩
        · have hsl := fun xs => slicePick_upto' xs k
          have hk : (Int.ofNat k) = ((k : Nat) : Int) := rfl
          rw [hk, hsl]
          exact ((a1.stays k₂.stays).stays fun _ _ e => Heap.get?_push_of_some _ e).take k
    · exact absurd rfl C.ns
  · exact absurd rfl C.ns
theorem sim_SlFrom {value : Expr} {k kk : Nat} {p0 p1 pos : Pos} {f : C} (h1 : ESim G c env names value f) (hs : Subs (.Slice (some (.Constant (.int (k : Int)) kk p0)) none none p1)) :
    ESim G c env names (.Subscript value (.Slice (some (.Constant (.int (k : Int)) kk p0)) none none p1) pos) (cSlFrom f k) := by
  intro O ρ s p Q E C
  refine Subscript_ (sp_seq (T := fun o Q E s₁ => wpAny (model G.prog G.w) c.A (eval (.Slice (some (.Constant (.int (k : Int)) kk p0)) none none p1) env) (fun i s₂ => wpAny (model G.prog G.w) c.A (subscriptTail value (.Slice (some (.Constant (.int (k : Int)) kk p0)) none none p1) o i) Q E s₂) E s₁) (h1 O ρ s p) (fun a v s₁ ha k₁ ra => ?_) Q E C)
  clear C
  intro Q E C
  refine wpAny_Slice ?_
  rw [evalPart_some]
  refine wpAny_Constant_int ?_
  rw [evalPart_none]
  refine wpAny_pure (wpAny_pure ?_)
  obtain ⟨ops, ho⟩ := hs v (.ref s₁.heap.objs.size)
  unfold slFrom at C
  split at C
  · rename_i l
    split at C
    · rename_i q
      have q' := Nat.le_of_ble_eq_true q
      cases ra with
      | lst e1 n1 a1 =>
        have e2 := Heap.get?_push_of_some { cls := .type "slice", data := .fields #[.int (k : Int) s₁.toks, .none, .none] } e1
        have hL : Heap.IsList _ _ _ := RepAll.isList e2
        have hlen := a1.length
        rw [Array.length_toList] at hlen
        refine tail_any (s := { s₁ with heap := s₁.heap.push { cls := .type "slice", data := .fields #[.int (k : Int) s₁.toks, .none, .none] }, toks := s₁.toks + 1 }) hL.typeIs slot_list_getitem.lookup (wpAny_getItem_list_slice hL (Heap.IsSliceOf.new ..) (.int _ _) .none .none (by simp) ?_ (by rw [hlen, sizeLine_eq]; omega)) ho
        refine C.ok _ rfl _ _ ((Ext.push _ _).trans ((Ext.tok _ _).trans (Ext.push _ _))) (rep_newL (fun a h => ?_) rfl rfl ?_)
        · obtain ⟨o, e⟩ := (p.ext k₁).oe a h
          exact ⟨o, Heap.get?_push_of_some _ e⟩
        · rw [slicePick_from']
          exact (a1.stays fun _ _ e => Heap.get?_push_of_some _ e).drop k
    · exact absurd rfl C.ns
  · exact absurd rfl C.ns
end
end Mine
end
section
open PySem PySem.W PyProof.Rows PySem.Calls PySem.Spec
namespace Mine

noncomputable def absI : Int → Int
  | .ofNat n => .ofNat n
  | .negSucc n => .ofNat (n + 1)
theorem absI_eq (a : Int) : absI a = if a < 0 then -a else a := by
  cases a with
  | ofNat n => exact (if_neg (by show ¬ ((n : Nat) : Int) < 0; omega)).symm
  | negSucc n => exact (if_pos (Int.negSucc_lt_zero n)).symm
noncomputable def bAbs : List D → R D
  | [.int a] => .ok (.int (absI a))
  | _ => .st
noncomputable def bLen : List D → R D
  | [.lst l] => if shortL l = true then .ok (.int (l.length : Nat)) else .st
  | [.tup l] => if shortL l = true then .ok (.int (l.length : Nat)) else .st
  | _ => .st
noncomputable def bMin : List D → R D
  | [.int a, .int b] => .ok (.int (bif decide (b < a) then b else a))
  | _ => .st
noncomputable def bMax : List D → R D
  | [.int a, .int b] => .ok (.int (bif decide (b > a) then b else a))
  | _ => .st
noncomputable def bList : List D → R D
  | [.lst l] => mkL l
  | _ => .st
noncomputable def bTuple : List D → R D
  | [.lst l] => mkT l
  | _ => .st
noncomputable def bInt : List D → R D
  | [.int a] => .ok (.int a)
  | _ => .st
noncomputable def cB (h : List D → R D) (f : CL) : C := fun ρ => (f ρ).bind h

structure HP (G : Gl) (c : Act) (O : Addr → Prop) (s : Shared) : Prop where
  F : ∃ m, Fr c.h₀ c.L s.heap m
  oB : ∀ a, O a → G.hB.get? a = none
  oe : ∀ a, O a → ∃ o, s.heap.get? a = some o
theorem Pre.hp {G : Gl} {c : Act} {O : Addr → Prop} {env : Env} {names : List Str} {ρ : List D} {s : Shared} (p : Pre G c O env names ρ s) : HP G c O s := ⟨p.F, p.oB, p.oe⟩
theorem HP.ext {G : Gl} {c : Act} {O : Addr → Prop} {s s' : Shared} (p : HP G c O s) (k : Ext s s') : HP G c O s' where
  F := let ⟨m, F⟩ := p.F; ⟨m, F.keeps k.stays⟩
  oB := p.oB
  oe := fun a h => let ⟨o, e⟩ := p.oe a h; ⟨o, k.stays _ _ e⟩

/-- a built-in's value -/
noncomputable def BSpec (G : Gl) (v : Value) (h : List D → R D) : Prop :=
  ∀ c n O s vs ds, c.OK G n → HP G c O s → RepAll O s.heap vs ds → Sp G c (Rep O) s (call v vs) (h ds)
/-- a def's value, at n calls deep -/
noncomputable def Spec (G : Gl) (n : Nat) (f : Fn) (g : List D → R D) : Prop :=
  ∀ c O s vs ds, c.OK G n → HP G c O s → RepAll O s.heap vs ds → Sp G c (Rep O) s (call (.ref (G.fa f)) vs) (g ds)

section
variable {G : Gl}
theorem b_abs : BSpec G (.builtin "abs") bAbs := by
  intro c n O s vs ds co p r Q E C
  unfold bAbs at C
  split at C
  · cases r with
    | cons a r => cases r; cases a
                  refine call_abs_int fun u tk => ?_
                  rw [← absI_eq]
                  exact C.retT (.int _ _)
  · exact absurd rfl C.ns
theorem b_len : BSpec G (.builtin "len") bLen := by
  intro c n O s vs ds co p r Q E C
  unfold bLen at C
  split at C
  · split at C
    · rename_i q
      have q' := Nat.le_of_ble_eq_true q
      cases r with
      | cons a r => cases r; cases a with
        | lst e n1 al =>
          have hl := al.length
          rw [Array.length_toList] at hl
          refine PyProof.Rows.len_list (RepAll.isList e) (by omega) ?_
          rw [hl]
          exact C.ok _ rfl _ _ (.tok _ _) (.int _ _)
    · exact absurd rfl C.ns
  · split at C
    · rename_i q
      have q' := Nat.le_of_ble_eq_true q
      cases r with
      | cons a r => cases r; cases a with
        | tup e n1 c1 d1 al =>
          have hl := al.length
          rw [Array.length_toList] at hl
          refine PyProof.Rows.len_tuple ⟨_, e, c1, _, d1⟩ (by omega) ?_
          rw [hl]
          exact C.ok _ rfl _ _ (.tok _ _) (.int _ _)
    · exact absurd rfl C.ns
  · exact absurd rfl C.ns
theorem b_min : BSpec G (.builtin "min") bMin := by
  intro c n O s vs ds co p r Q E C
  unfold bMin at C
  split at C
  · cases r with
    | cons a r => cases r with
      | cons b r => cases r; cases a; cases b
                    refine min_two_ints co.hh fun h' tk k => ?_
                    refine C.ok _ rfl _ _ (.heap k tk) ?_
                    rename_i i j t u
                    by_cases q : j < i <;> simp [q] <;> exact .int _ _
  · exact absurd rfl C.ns
theorem b_max : BSpec G (.builtin "max") bMax := by
  intro c n O s vs ds co p r Q E C
  unfold bMax at C
  split at C
  · cases r with
    | cons a r => cases r with
      | cons b r => cases r; cases a; cases b
                    refine max_two_ints co.hh fun h' tk k => ?_
                    refine C.ok _ rfl _ _ (.heap k tk) ?_
                    rename_i i j t u
                    by_cases q : j > i <;> simp [q] <;> exact .int _ _
  · exact absurd rfl C.ns
theorem b_int : BSpec G (.type "int") bInt := by
  intro c n O s vs ds co p r Q E C
  unfold bInt at C
  split at C
  · cases r with
    | cons a r => cases r; cases a; exact call_int_int (C.ret (.int _ _))
  · exact absurd rfl C.ns
theorem b_list : BSpec G (.type "list") bList := by
  intro c n O s vs ds co p r Q E C
  unfold bList at C
  split at C
  · unfold mkL at C
    split at C
    · rename_i q
      have q' := Nat.le_of_ble_eq_true q
      cases r with
      | cons a r => cases r; cases a with
        | lst e n1 al =>
          have hl := al.length
          rw [Array.length_toList] at hl
          refine call_list_seq _ (.inl rfl) e rfl rfl (fun h' c' k hD => C.ok _ rfl _ _ (.heap' k) ?_) (by rw [hl, sizeLine_eq]; omega)
          refine .lst hD (fun z => ?_) (al.stays k)
          obtain ⟨o, e⟩ := p.oe _ z
          exact absurd (Heap.lt_size e) (Nat.lt_irrefl _)
    · exact absurd rfl C.ns
  · exact absurd rfl C.ns
theorem b_tuple : BSpec G (.type "tuple") bTuple := by
  intro c n O s vs ds co p r Q E C
  unfold bTuple at C
  split at C
  · unfold mkT at C
    split at C
    · rename_i q
      have q' := Nat.le_of_ble_eq_true q
      cases r with
      | cons a r => cases r; cases a with
        | lst e n1 al =>
          have hl := al.length
          rw [Array.length_toList] at hl
          refine call_tuple_list (RepAll.isList e) (fun h' k => C.ok _ rfl _ _ (.heap' fun b o q => Heap.get?_push_of_some _ (k b o q)) ?_) (by rw [hl, sizeLine_eq]; omega)
          exact rep_newT (fun a z => let ⟨o, e⟩ := p.oe a z; ⟨o, k _ _ e⟩) rfl rfl (al.stays k)
    · exact absurd rfl C.ns
  · exact absurd rfl C.ns

section
variable {c : Act} {env : Env} {names : List Str} {n : Nat}
theorem sim_B {x : String} {v : Value} {np pos : Pos} {e : Expr} {rest : List Expr} {h : List D → R D} {f : CL} (hv : BSpec G v h) (hm : (x, v) ∈ bltTab) (hk : ∀ q e s (Q : Value → Shared → Prop) (E : Value → Shared → Prop), wpAny (model G.prog G.w) c.A (spliced ((false, q) :: e)) (fun vs s₁ => wpAny (model G.prog G.w) c.A (call v vs) Q E s₁) E s → e.any (·.1) = false → wpAny (model G.prog G.w) c.A (callWith pos v [] ((false, q) :: e) []) Q E s)
    (eo : EnvOK env) (ok : G.OK) (co : c.OK G n) (hs : LSim G c env names (e :: rest) f) (hi : env.kindOf (Str.ofString x) = some .globalImplicit) (hd : (Str.ofString x == ("__debug__" : Str)) = false)
    (he : starEach (e :: rest) env = (false, eval e env) :: starEach rest env) (hp : (backTo pos (starEach rest env)).any (·.1) = false)
    (hc : eval (.Call (.Name (Str.ofString x) np) (e :: rest) [] pos) env = (do callWith pos (← eval (.Name (Str.ofString x) np) env) [] (backTo pos (starEach (e :: rest) env)) (backToKw pos (keywordEach [] env)))) :
    ESim G c env names (.Call (.Name (Str.ofString x) np) (e :: rest) [] pos) (cB h f) := by
  intro O ρ s p Q E C
  obtain ⟨e1, e2⟩ := ok.blt _ hm
  obtain ⟨m, F⟩ := p.F
  have st : G.hB.StaysIn s.heap := fun b o q => F.keep b o (co.stays b o q)
  refine Call_ (Name_function_global eo.kind hi (loadGlobal_builtin (by rw [eo.globals]; exact ok.g.keeps st) e1 (by rw [eo.builtins]; exact ok.b.keeps st) e2 ?_) hd) hc
  have hs' := hs O ρ s pos p
  rw [he] at hs' ⊢
  refine hk _ _ _ _ _ ?_ hp
  exact sp_seq (T := fun vs Q E s₁ => wpAny (model G.prog G.w) c.A (call v vs) Q E s₁) hs' (fun ds vs s₁ _ k₁ r => hv c n O s₁ vs ds co (p.ext k₁).hp r) Q E C
theorem how_builtin {id : String} {pos : Pos} (q : Sem Value) (e : List (Bool × Sem Value)) (s : Shared) (Q : Value → Shared → Prop) (E : Value → Shared → Prop) (h : wpAny (model G.prog G.w) c.A (spliced ((false, q) :: e)) (fun vs s₁ => wpAny (model G.prog G.w) c.A (call (.builtin id) vs) Q E s₁) E s) (hp : e.any (·.1) = false) :
    wpAny (model G.prog G.w) c.A (callWith pos (.builtin id) [] ((false, q) :: e) []) Q E s :=
  callWith_builtin (by show (false || e.any (·.1)) = false; rw [hp]; rfl) (evalArgs_plain h)
theorem how_type {id : String} {pos : Pos} (q : Sem Value) (e : List (Bool × Sem Value)) (s : Shared) (Q : Value → Shared → Prop) (E : Value → Shared → Prop) (h : wpAny (model G.prog G.w) c.A (spliced ((false, q) :: e)) (fun vs s₁ => wpAny (model G.prog G.w) c.A (call (.type id) vs) Q E s₁) E s) (hp : e.any (·.1) = false) :
    wpAny (model G.prog G.w) c.A (callWith pos (.type id) [] ((false, q) :: e) []) Q E s :=
  PySem.callWith_type (by show (false || e.any (·.1)) = false; rw [hp]; rfl) (evalArgs_plain h)

theorem sim_C {fn : Fn} {x : Str} {np pos : Pos} {e : Expr} {rest : List Expr} {g : List D → R D} {f : CL} (hx : x = Str.ofString (fnStr fn)) (hv : Spec G n fn g) (eo : EnvOK env) (ok : G.OK) (co : c.OK G n) (hs : LSim G c env names (e :: rest) f) (hi : env.kindOf x = some .globalImplicit) (hd : (x == ("__debug__" : Str)) = false)
    (he : starEach (e :: rest) env = (false, eval e env) :: starEach rest env)
    (hc : eval (.Call (.Name x np) (e :: rest) [] pos) env = (do callWith pos (← eval (.Name x np) env) [] (backTo pos (starEach (e :: rest) env)) (backToKw pos (keywordEach [] env)))) :
    ESim G c env names (.Call (.Name x np) (e :: rest) [] pos) (cB g f) := by
  intro O ρ s p Q E C
  subst hx
  obtain ⟨e1, o, fd, e2, e3⟩ := ok.fn fn
  obtain ⟨m, F⟩ := p.F
  have st : G.hB.StaysIn s.heap := fun b o q => F.keep b o (co.stays b o q)
  refine Call_ (Name_function_global eo.kind hi (loadGlobal_global (by rw [eo.globals]; exact ok.g.keeps st) e1 ?_) hd) hc
  refine callWith_def e3 ?_ he
  exact sp_seq (T := fun vs Q E s₁ => s₁.heap.get? (G.fa fn) = some o ∧ wpAny (model G.prog G.w) c.A (call (.ref (G.fa fn)) vs) Q E s₁) (hs O ρ s pos p) (fun ds vs s₁ _ k₁ r Q E C => ⟨k₁.stays _ _ (st _ _ e2), hv c O s₁ vs ds co (p.ext k₁).hp r Q E C⟩) Q E C
end
end
end Mine
end
section
open PySem PySem.W PyProof.Rows PySem.Calls PySem.Spec
namespace Mine

inductive RS where
  | nx (ρ : List D) | rt (d : D) | rz (k : Nat) | st
noncomputable def setN : List D → Nat → D → List D
  | [], _, _ => []
  | _ :: r, 0, d => d :: r
  | a :: r, n + 1, d => a :: setN r n d
theorem setN_get : ∀ (ρ : List D) (i : Nat) (d : D) (j : Nat) (e : D), (setN ρ i d)[j]? = some e → (j = i ∧ e = d) ∨ (j ≠ i ∧ ρ[j]? = some e)
  | [], _, _, _, _, h => by simp [setN] at h
  | a :: r, 0, d, 0, e, h => by simp [setN] at h; exact .inl ⟨rfl, h.symm⟩
  | a :: r, 0, d, j + 1, e, h => by simp [setN] at h; exact .inr ⟨by omega, by simpa using h⟩
  | a :: r, i + 1, d, 0, e, h => by simp [setN] at h; exact .inr ⟨by omega, by simpa using h⟩
  | a :: r, i + 1, d, j + 1, e, h => by
    simp only [setN, List.getElem?_cons_succ] at h ⊢
    rcases setN_get r i d j e h with ⟨q, p⟩ | ⟨q, p⟩
    · exact .inl ⟨by omega, p⟩
    · exact .inr ⟨by omega, p⟩

theorem ns_fun {h : Heap} {a : Addr} {m m' : Str → Option Value} (x : h.Ns a m) (y : h.Ns a m') : m = m' := by
  obtain ⟨o, es, ep, e1, d1, _, f1⟩ := x
  obtain ⟨o', es', ep', e2, d2, _, f2⟩ := y
  rw [e1] at e2; cases e2
  rw [d1] at d2; cases d2
  funext n
  rw [← f1 n, f2 n]
theorem cell_fun {h : Heap} {a : Addr} {v v' : Option Value} (x : h.IsCell a v) (y : h.IsCell a v') : v = v' := by
  obtain ⟨o, e1, d1⟩ := x
  obtain ⟨o', e2, d2⟩ := y
  rw [e1] at e2; cases e2
  rw [d1] at d2; cases d2; rfl
theorem VarAt.fun {env : Env} {h : Heap} {x : Str} {v v' : Value} (a : VarAt env h x v) (b : VarAt env h x v') : v = v' := by
  rcases a with ⟨k, m, n, e⟩ | ⟨k, c, e, i⟩ | ⟨k, c, e, i⟩ <;> rcases b with ⟨k', m', n', e'⟩ | ⟨k', c', e', i'⟩ | ⟨k', c', e', i'⟩ <;> first
    | (rw [ns_fun n n', e'] at e; cases e; rfl)
    | (rw [k] at k'; cases k'; done)
    | (rw [e] at e'; cases e'; have := cell_fun i i'; cases this; rfl)

structure Frm (c : Act) (env : Env) (names : List Str) : Prop where
  eo : EnvOK env
  hL : env.locals = c.L
  nd : names.Nodup
  ci : ∀ x y a, env.cells.lookup x = some a → env.cells.lookup y = some a → x = y

structure SPre (G : Gl) (c : Act) (env : Env) (names : List Str) (Oe O : Addr → Prop) (ρ : List D) (s : Shared) : Prop where
  p : Pre G c O env names ρ s
  sub : ∀ a, Oe a → O a
  oh : ∀ a, O a → ¬ Oe a → c.h₀.get? a = none
  oL : O c.L ∧ ¬ Oe c.L
  oC : ∀ x a, env.cells.lookup x = some a → O a ∧ ¬ Oe a ∧ ∃ v, s.heap.IsCell a v
  own : ∀ (i : Nat) (x : Str) (l : List D) (a : Addr), names[i]? = some x → ρ[i]? = some (.own l) → VarAt env s.heap x (.ref a) → ¬ Oe a
  inj : ∀ (i j : Nat) (x y : Str) (l l' : List D) (a : Addr), names[i]? = some x → names[j]? = some y → ρ[i]? = some (.own l) → ρ[j]? = some (.own l') → VarAt env s.heap x (.ref a) → VarAt env s.heap y (.ref a) → i = j

structure Kp (Oe O : Addr → Prop) (s s' : Shared) (O' : Addr → Prop) : Prop where
  eq : s' = { s with heap := s'.heap, toks := s'.toks }
  keep : ∀ b o, (¬ O b ∨ Oe b) → s.heap.get? b = some o → s'.heap.get? b = some o
  new : ∀ b, O' b → O b ∨ s.heap.get? b = none
theorem Kp.ofExt {Oe O : Addr → Prop} {s s' : Shared} (k : Ext s s') : Kp Oe O s s' O := ⟨k.eq, fun b o _ e => k.stays b o e, fun _ h => .inl h⟩
theorem Kp.trans {Oe O O' O'' : Addr → Prop} {s s' s'' : Shared} (a : Kp Oe O s s' O') (b : Kp Oe O' s' s'' O'') : Kp Oe O s s'' O'' := by
  have st : ∀ x o, (¬ O x ∨ Oe x) → s.heap.get? x = some o → (¬ O' x ∨ Oe x) := fun x o h e => by
    rcases h with h | h
    · refine .inl fun z => ?_
      rcases a.new x z with q | q
      · exact h q
      · rw [q] at e; cases e
    · exact .inr h
  refine ⟨by rw [b.eq, a.eq], fun x o h e => b.keep x o (st x o h e) (a.keep x o h e), fun x h => ?_⟩
  rcases b.new x h with q | q
  · exact a.new x q
  · by_cases z : O x
    · exact .inl z
    · right
      cases e : s.heap.get? x with
      | none => rfl
      | some o => have := a.keep x o (.inl z) e; rw [q] at this; cases this

theorem SPre.ext {G : Gl} {c : Act} {env : Env} {names : List Str} {Oe O : Addr → Prop} {ρ : List D} {s s' : Shared} (p : SPre G c env names Oe O ρ s) (k : Ext s s') : SPre G c env names Oe O ρ s' where
  p := p.p.ext k
  sub := p.sub
  oh := p.oh
  oL := p.oL
  oC := fun x a e => let ⟨h1, h2, v, o, e1, e2⟩ := p.oC x a e; ⟨h1, h2, v, o, k.stays _ _ e1, e2⟩
  own := fun i x l a h1 h2 h3 => by
    obtain ⟨a', _, _, va, _⟩ := p.p.V i x _ h1 h2
    have := VarAt.fun h3 (va.stays k.stays)
    cases this
    exact p.own i x l a h1 h2 va
  inj := fun i j x y l l' a h1 h2 h3 h4 h5 h6 => by
    obtain ⟨a', _, _, va, _⟩ := p.p.V i x _ h1 h3
    obtain ⟨b', _, _, vb, _⟩ := p.p.V j y _ h2 h4
    have e1 := VarAt.fun h5 (va.stays k.stays)
    have e2 := VarAt.fun h6 (vb.stays k.stays)
    cases e1; cases e2
    exact p.inj i j x y l l' a h1 h2 h3 h4 va vb

/-- what is read over ¬ O stands in what the body leaves -/
theorem rep_kp {Oe O O' : Addr → Prop} {s s' : Shared} (k : Kp Oe O s s' O') {v : Value} {d : D} (r : Rep O s.heap v d) : Rep O' s'.heap v d :=
  r.imp fun a o e n _ => ⟨k.keep a o (.inl n) e, fun z => by
    rcases k.new a z with q | q
    · exact n q
    · rw [q] at e; cases e⟩
theorem repAll_kp {Oe O O' : Addr → Prop} {s s' : Shared} (k : Kp Oe O s s' O') {v : List Value} {d : List D} (r : RepAll O s.heap v d) : RepAll O' s'.heap v d :=
  r.imp fun a o e n _ => ⟨k.keep a o (.inl n) e, fun z => by
    rcases k.new a z with q | q
    · exact n q
    · rw [q] at e; cases e⟩

structure SConts (G : Gl) (c : Act) (env : Env) (names : List Str) (Oe O : Addr → Prop) (s : Shared) (x : RS) (Q : Flow → Shared → Prop) (E : Value → Shared → Prop) : Prop where
  nx : ∀ ρ', x = .nx ρ' → ∀ O' s', Kp Oe O s s' O' → SPre G c env names Oe O' ρ' s' → Q .next s'
  rt : ∀ d, x = .rt d → ∀ r s', s' = { s with heap := s'.heap, toks := s'.toks } → (∃ m, Fr c.h₀ c.L s'.heap m) → Rep Oe s'.heap r d → Q (.ret r) s'
  rz : ∀ k, x = .rz k → ∀ e s', s' = { s with heap := s'.heap, toks := s'.toks } → c.h₀.UpToSlots s'.heap → G.Fly (c.fenv :: c.outer) k e s'.heap → E (.ref e) s'
  ns : x ≠ .st
noncomputable abbrev B := List D → RS
noncomputable def SSim (G : Gl) (c : Act) (env : Env) (names : List Str) (st : Stmt) (g : B) : Prop :=
  ∀ Oe O ρ s, SPre G c env names Oe O ρ s → ∀ Q E, SConts G c env names Oe O s (g ρ) Q E → wpAny (model G.prog G.w) c.A (exec st env) Q E s
noncomputable def BSim (G : Gl) (c : Act) (env : Env) (names : List Str) (sts : List Stmt) (g : B) : Prop :=
  ∀ Oe O ρ s, SPre G c env names Oe O ρ s → ∀ Q E, SConts G c env names Oe O s (g ρ) Q E → wpAny (model G.prog G.w) c.A (execs sts env) Q E s

noncomputable def rsOf (x : R D) (f : D → RS) : RS := match x with
  | .ok d => f d
  | .rz k => .rz k
  | .st => .st
noncomputable def rsB (x : R Bool) (f : Bool → RS) : RS := match x with
  | .ok d => f d
  | .rz k => .rz k
  | .st => .st
noncomputable def rsL (x : R (List D)) (f : List D → RS) : RS := match x with
  | .ok d => f d
  | .rz k => .rz k
  | .st => .st
noncomputable def bNil : B := fun ρ => .nx ρ
noncomputable def bCons (k b : B) : B := fun ρ => match k ρ with
  | .nx ρ' => b ρ'
  | x => x
noncomputable def kRet (f : C) : B := fun ρ => rsOf (f ρ) .rt
noncomputable def kAs (i : Nat) (f : C) : B := fun ρ => rsOf (f ρ) fun d => .nx (setN ρ i d)
noncomputable def kIf (t : CB) (a b : B) : B := fun ρ => rsB (t ρ) fun q => bif q then a ρ else b ρ
noncomputable def kEx (f : C) : B := fun ρ => rsOf (f ρ) fun d => match d with
  | .none => .nx ρ
  | _ => .st

section
variable {G : Gl} {c : Act} {env : Env} {names : List Str} {n : Nat} {Oe O : Addr → Prop} {ρ : List D} {s : Shared}

theorem sim_bNil : BSim G c env names [] bNil := fun _ _ _ _ p _ _ C => wpAny_execs_nil (C.nx _ rfl _ _ (.ofExt (.refl _)) p)
theorem sim_bCons {st : Stmt} {rest : List Stmt} {k b : B} (h1 : SSim G c env names st k) (h2 : BSim G c env names rest b) : BSim G c env names (st :: rest) (bCons k b) := by
  intro Oe O ρ s p Q E C
  unfold bCons at C
  refine wpAny_execs_cons (h1 Oe O ρ s p _ _ ⟨fun ρ' e O' s' kp p' => ?_, fun d e r s' eq F rp => ?_, fun k e x s' eq u f => ?_, fun e => ?_⟩)
  · rw [e] at C
    refine h2 Oe O' ρ' s' p' _ _ ⟨fun ρ'' e' O'' s'' kp' p'' => C.nx ρ'' e' O'' s'' (kp.trans kp') p'', fun d e' r s'' eq F rp => C.rt d e' r s'' (by rw [eq, kp.eq]) F rp, fun k e' x s'' eq u f => C.rz k e' x s'' (by rw [eq, kp.eq]) u f, C.ns⟩
  · rw [e] at C; exact C.rt d rfl r s' eq F rp
  · rw [e] at C; exact C.rz k rfl x s' eq u f
  · rw [e] at C; exact C.ns rfl

/-- an expression ahead of a statement's end -/
theorem sp_stmt {α β : Type} {Rel : Heap → β → α → Prop} {t : Sem β} {x : R α} {f : α → RS} {g : R α → (α → RS) → RS} (hg : (∀ a f, g (.ok a) f = f a) ∧ (∀ k f, g (.rz k) f = .rz k) ∧ ∀ f, g .st f = .st) {P : β → Shared → Prop} {Q : Flow → Shared → Prop} {E : Value → Shared → Prop}
    (p : SPre G c env names Oe O ρ s) (h : Sp G c Rel s t x) (C : SConts G c env names Oe O s (g x f) Q E)
    (h2 : ∀ a b s', x = .ok a → Ext s s' → Rel s'.heap b a → SPre G c env names Oe O ρ s' → SConts G c env names Oe O s' (f a) Q E → P b s') : wpAny (model G.prog G.w) c.A t P E s := by
  refine h _ _ ⟨fun a e b s' k r => h2 a b s' e k r (p.ext k) ?_, fun k e x' s' u fl => ?_, fun e => ?_⟩
  · rw [e, hg.1] at C
    exact ⟨fun ρ' e' O' s'' kp p' => C.nx ρ' e' O' s'' ((Kp.ofExt k).trans kp) p', fun d e' r s'' eq F rp => C.rt d e' r s'' (by rw [eq, k.eq]) F rp, fun k' e' x s'' eq u f => C.rz k' e' x s'' (by rw [eq, k.eq]) u f, C.ns⟩
  · rw [e, hg.2.1] at C
    obtain ⟨m, F⟩ := p.p.F
    exact C.rz k rfl x' s' u.eq ((Heap.UpToSlots.of_keeps F.keep).trans u.up) fl
  · rw [e, hg.2.2] at C
    exact C.ns rfl
theorem rsOf_g : (∀ (a : D) (f : D → RS), rsOf (.ok a) f = f a) ∧ (∀ k (f : D → RS), rsOf (.rz k) f = .rz k) ∧ ∀ f : D → RS, rsOf .st f = .st := ⟨fun _ _ => rfl, fun _ _ => rfl, fun _ => rfl⟩
theorem rsB_g : (∀ (a : Bool) (f : Bool → RS), rsB (.ok a) f = f a) ∧ (∀ k (f : Bool → RS), rsB (.rz k) f = .rz k) ∧ ∀ f : Bool → RS, rsB .st f = .st := ⟨fun _ _ => rfl, fun _ _ => rfl, fun _ => rfl⟩
theorem rsL_g : (∀ (a : List D) (f : List D → RS), rsL (.ok a) f = f a) ∧ (∀ k (f : List D → RS), rsL (.rz k) f = .rz k) ∧ ∀ f : List D → RS, rsL .st f = .st := ⟨fun _ _ => rfl, fun _ _ => rfl, fun _ => rfl⟩

theorem sim_kRet {e : Expr} {pos : Pos} {f : C} (h : ESim G c env names e f) : SSim G c env names (.Return (some e) pos) (kRet f) := by
  intro Oe O ρ s p Q E C
  refine wpAny_Return_some (sp_stmt rsOf_g p (h O ρ s p.p) C fun d v s' _ k r p' C' => ?_)
  exact C'.rt d rfl v s' rfl p'.p.F (r.less p.sub)
theorem sim_kRet0 {pos : Pos} : SSim G c env names (.Return none pos) (kRet (cK .none)) := by
  intro Oe O ρ s p Q E C
  exact wpAny_Return_none (C.rt _ rfl .none s rfl p.p.F .none)
theorem sim_kIf {t : Expr} {a b : List Stmt} {pos : Pos} {ft : CB} {f g : B} (ht : TSim G c env names t ft) (ha : BSim G c env names a f) (hb : BSim G c env names b g) : SSim G c env names (.If t a b pos) (kIf ft f g) := by
  intro Oe O ρ s p Q E C
  refine wpAny_If (sp_stmt rsB_g p (ht O ρ s p.p) C fun q b s' _ k r p' C' => ?_)
  subst r
  cases b with
  | true => exact ha Oe O ρ s' p' Q E C'
  | false => exact hb Oe O ρ s' p' Q E C'
theorem sim_kEx {e : Expr} {pos : Pos} {f : C} (h : ESim G c env names e f) (hi : interactive env = false) (hs : swapsWith e none pos.line env = pure false) : SSim G c env names (.Expr e pos) (kEx f) := by
  intro Oe O ρ s p Q E C
  refine wpAny_Expr (sp_stmt rsOf_g p (h O ρ s p.p) C fun d v s' _ k r p' C' => ?_) hi hs
  cases r <;> first | exact C'.nx _ rfl _ _ (.ofExt (.refl _)) p' | exact absurd rfl C'.ns
end
end Mine
end
section
open PySem PySem.W PyProof.Rows PySem.Calls PySem.Spec
namespace Mine

/-- a value as a name may hold it -/
noncomputable def Sto (env : Env) (names : List Str) (Oe O : Addr → Prop) (ρ : List D) (s : Shared) (i : Nat) (v : Value) (d : D) : Prop :=
  Rep O s.heap v d ∨ ∃ l a vs n, d = .own l ∧ v = .ref a ∧ O a ∧ ¬ Oe a ∧ s.heap.get? a = some { cls := .type "list", data := .seq vs n } ∧ RepAll O s.heap vs.toList l ∧
    ∀ (j : Nat) (y : Str) (l' : List D), j ≠ i → names[j]? = some y → ρ[j]? = some (.own l') → ¬ VarAt env s.heap y (.ref a)

section
variable {G : Gl} {c : Act} {env : Env} {names : List Str} {n : Nat} {Oe O : Addr → Prop} {ρ : List D} {s s' : Shared}

theorem VRep.of_rep {h : Heap} {x : Str} {v : Value} {d : D} (r : Rep O h v d) (a : VarAt env h x v) : VRep env O h x d := by
  cases r <;> exact ⟨_, a, by first | exact .none | exact .bool _ | exact .int _ _ | (exact .str _ _ (by assumption)) | (exact .tup (by assumption) (by assumption) (by assumption) (by assumption) (by assumption)) | (exact .lst (by assumption) (by assumption) (by assumption))⟩

theorem rep_but {b₀ : Addr} (hO : O b₀) {h h' : Heap} (hs : Heap.SameBut b₀ h h') {v : Value} {d : D} (r : Rep O h v d) : Rep O h' v d :=
  r.imp fun a o e n _ => ⟨(hs.2 a fun q => n (q ▸ hO)).trans e, n⟩
theorem repAll_but {b₀ : Addr} (hO : O b₀) {h h' : Heap} (hs : Heap.SameBut b₀ h h') {v : List Value} {d : List D} (r : RepAll O h v d) : RepAll O h' v d :=
  r.imp fun a o e n _ => ⟨(hs.2 a fun q => n (q ▸ hO)).trans e, n⟩

theorem upd_pre (p : SPre G c env names Oe O ρ s) (fr : Frm c env names) {b₀ : Addr} (hO : O b₀) (hE : ¬ Oe b₀) (eq : s' = { s with heap := s'.heap, toks := s'.toks }) (hs : Heap.SameBut b₀ s.heap s'.heap) (hb : ∃ o, s'.heap.get? b₀ = some o)
    (hl : ∀ vs k, s.heap.get? b₀ ≠ some { cls := .type "list", data := .seq vs k }) (hF : ∃ m, Fr c.h₀ c.L s'.heap m) (hc : ∀ x a, env.cells.lookup x = some a → ∃ v, s'.heap.IsCell a v)
    {i : Nat} {x : Str} {v : Value} {d : D} (hx : names[i]? = some x) (hv : VarAt env s'.heap x v) (hw : ∀ y w, y ≠ x → VarAt env s.heap y w → VarAt env s'.heap y w) (sto : Sto env names Oe O ρ s i v d) :
    Kp Oe O s s' O ∧ SPre G c env names Oe O (setN ρ i d) s' := by
  have same : ∀ b, b ≠ b₀ → s'.heap.get? b = s.heap.get? b := hs.2
  have kp : Kp Oe O s s' O := ⟨eq, fun b o h e => (same b fun q => by
    subst q
    rcases h with h | h
    · exact h hO
    · exact hE h).trans e, fun _ h => .inl h⟩
  have nd : ∀ {j : Nat} {y : Str}, names[j]? = some y → j ≠ i → y ≠ x := fun {j y} hj hji q => by
    subst q
    obtain ⟨h1, h1'⟩ := List.getElem?_eq_some_iff.mp hj
    obtain ⟨h2, h2'⟩ := List.getElem?_eq_some_iff.mp hx
    exact hji ((List.getElem_inj fr.nd).mp (h1'.trans h2'.symm))
  have ownat : ∀ {j : Nat} {y : Str} {l : List D}, names[j]? = some y → ρ[j]? = some (.own l) → ∃ a vs k, VarAt env s.heap y (.ref a) ∧ O a ∧ s.heap.get? a = some { cls := .type "list", data := .seq vs k } ∧ RepAll O s.heap vs.toList l := fun h1 h2 => p.p.V _ _ _ h1 h2
  refine ⟨kp, ⟨⟨hF, p.p.oB, fun a h => ?_, fun j y e hj he => ?_⟩, p.sub, p.oh, p.oL, fun x a e => ⟨(p.oC x a e).1, (p.oC x a e).2.1, hc x a e⟩, fun j y l a hj he va => ?_, fun j k y z l l' a hj hk he he' va vb => ?_⟩⟩
  · by_cases q : a = b₀
    · subst q; exact hb
    · obtain ⟨o, e⟩ := p.p.oe a h
      exact ⟨o, (same a q).trans e⟩
  · rcases setN_get ρ i d j e he with ⟨rfl, rfl⟩ | ⟨hji, he⟩
    · rw [hx] at hj; cases hj
      rcases sto with r | ⟨l, a, vs, k, rfl, rfl, h1, h2, h3, h4, _⟩
      · exact VRep.of_rep (rep_but hO hs r) hv
      · exact ⟨a, vs, k, hv, h1, (same a fun q => hl vs k (q ▸ h3)).trans h3, repAll_but hO hs h4⟩
    · have v0 := p.p.V j y e hj he
      have hy := nd hj hji
      cases e with
      | no => trivial
      | own l =>
        obtain ⟨a, vs, k, va, h1, h3, h4⟩ := v0
        exact ⟨a, vs, k, hw y _ hy va, h1, (same a fun q => hl vs k (q ▸ h3)).trans h3, repAll_but hO hs h4⟩
      | _ => obtain ⟨w, va, r⟩ := v0; exact ⟨w, hw y w hy va, rep_but hO hs r⟩
  · rcases setN_get ρ i d j _ he with ⟨rfl, q⟩ | ⟨hji, he⟩
    · rw [hx] at hj; cases hj
      rcases sto with r | ⟨l', a', vs, k, h0, rfl, h1, h2, h3, h4, _⟩
      · rw [← q] at r; cases r
      · have := VarAt.fun va hv; cases this; exact h2
    · obtain ⟨a', vs, k, va', _⟩ := ownat hj he
      have := VarAt.fun va (hw y _ (nd hj hji) va'); cases this
      exact p.own j y l _ hj he va'
  · rcases setN_get ρ i d j _ he with ⟨e1, q⟩ | ⟨hji, hej⟩
    · rcases setN_get ρ i d k _ he' with ⟨e2, q'⟩ | ⟨hki, hek⟩
      · rw [e1, e2]
      · rw [e1, hx] at hj; cases hj
        rcases sto with r | ⟨l₁, a', vs, n, h0, rfl, h1, h2, h3, h4, h5⟩
        · rw [← q] at r; cases r
        · have := VarAt.fun va hv; cases this
          obtain ⟨b', _, _, vb', _⟩ := ownat hk hek
          have := VarAt.fun vb (hw z _ (nd hk hki) vb'); cases this
          exact absurd vb' (h5 k z l' hki hk hek)
    · rcases setN_get ρ i d k _ he' with ⟨e2, q'⟩ | ⟨hki, hek⟩
      · rw [e2, hx] at hk; cases hk
        rcases sto with r | ⟨l₁, a', vs, n, h0, rfl, h1, h2, h3, h4, h5⟩
        · rw [← q'] at r; cases r
        · have := VarAt.fun vb hv; cases this
          obtain ⟨b', _, _, vb', _⟩ := ownat hj hej
          have := VarAt.fun va (hw y _ (nd hj hji) vb'); cases this
          exact absurd vb' (h5 j y l hji hj hej)
      · obtain ⟨a', _, _, va', _⟩ := ownat hj hej
        obtain ⟨b', _, _, vb', _⟩ := ownat hk hek
        have e1 := VarAt.fun va (hw y _ (nd hj hji) va'); cases e1
        have e2 := VarAt.fun vb (hw z _ (nd hk hki) vb'); cases e2
        exact p.inj j k y z l l' _ hj hk hej hek va' vb'

theorem st_storeV (p : SPre G c env names Oe O ρ s) (fr : Frm c env names) {i : Nat} {x : Str} {v : Value} {d : D} (hx : names[i]? = some x) (hk : env.kindOf x = some .local ∨ (env.kindOf x = some .cell ∧ (env.cells.lookup x).isSome = true)) (sto : Sto env names Oe O ρ s i v d)
    {Q : Unit → Shared → Prop} {E : Value → Shared → Prop} (h : ∀ s', Kp Oe O s s' O → SPre G c env names Oe O (setN ρ i d) s' → VarAt env s'.heap x v → (∀ y w, y ≠ x → VarAt env s.heap y w → VarAt env s'.heap y w) → (∀ b vs k, s.heap.get? b = some { cls := .type "list", data := .seq vs k } → s'.heap.get? b = some { cls := .type "list", data := .seq vs k }) → Q () s') : wpAny (model G.prog G.w) c.A (storeName env x v) Q E s := by
  obtain ⟨m, F⟩ := p.p.F
  have nsL := F.ns
  have cellNe : ∀ {a : Addr} {w : Option Value}, s.heap.IsCell a w → a ≠ c.L := fun {a w} ⟨o, e, d⟩ q => by
    obtain ⟨o', es, ep, e', d', _⟩ := nsL
    rw [q, e'] at e; cases e; rw [d] at d'; cases d'
  rcases hk with hk | ⟨hk, hs⟩
  · refine wpAny_storeName_local hk (fr.hL ▸ nsL) (fun h' hn hs => ?_) (by rw [fr.eo.kind]; rfl)
    rw [fr.hL] at hn hs
    have hw : ∀ y w, y ≠ x → VarAt env s.heap y w → VarAt env h' y w := fun y w hy va => by
      rcases va with ⟨k, m', n', e⟩ | ⟨k, a, e, i⟩ | ⟨k, a, e, i⟩
      · rw [fr.hL] at n'
        have := ns_fun n' nsL
        subst this
        exact .inl ⟨k, _, by rw [fr.hL]; exact hn, by rw [if_neg hy]; exact e⟩
      · obtain ⟨o, e1, e2⟩ := i; exact .inr (.inl ⟨k, a, e, o, (hs.2 a (cellNe ⟨o, e1, e2⟩)).trans e1, e2⟩)
      · obtain ⟨o, e1, e2⟩ := i; exact .inr (.inr ⟨k, a, e, o, (hs.2 a (cellNe ⟨o, e1, e2⟩)).trans e1, e2⟩)
    obtain ⟨k, p'⟩ := upd_pre (s' := { s with heap := h', toks := s.toks + 1 }) p fr p.oL.1 p.oL.2 rfl hs (by obtain ⟨o, _, _, e, _⟩ := hn; exact ⟨o, e⟩)
      (fun vs k q => by obtain ⟨o', es, ep, e', d', _⟩ := nsL; rw [q] at e'; cases e'; cases d') ⟨_, F.set hn hs⟩
      (fun y a e => by obtain ⟨_, _, w, o, e1, e2⟩ := p.oC y a e; exact ⟨w, o, (hs.2 a (cellNe ⟨o, e1, e2⟩)).trans e1, e2⟩) hx
      (.inl ⟨hk, _, by rw [fr.hL]; exact hn, by simp⟩) hw sto
    exact h _ k p' (.inl ⟨hk, _, by rw [fr.hL]; exact hn, by simp⟩) hw fun b vs k' e => (hs.2 b fun q => by obtain ⟨o', es, ep, e', d', _⟩ := nsL; rw [← q, e] at e'; cases e'; cases d').trans e
  · obtain ⟨b, hb⟩ := Option.isSome_iff_exists.mp hs
    obtain ⟨oO, oE, v0, ic⟩ := p.oC x b hb
    refine wpAny_storeName_cell fr.eo.kind hk hb ic fun h' hv hs => ?_
    have hbL := cellNe ic
    have same : ∀ a, a ≠ b → h'.get? a = s.heap.get? a := hs.2
    have ne : ∀ {y a}, y ≠ x → env.cells.lookup y = some a → a ≠ b := fun {y a} hy e q => hy (fr.ci y x a e (q ▸ hb))
    have hw : ∀ y w, y ≠ x → VarAt env s.heap y w → VarAt env h' y w := fun y w hy va => by
      rcases va with ⟨k, m', n', e⟩ | ⟨k, a, e, i⟩ | ⟨k, a, e, i⟩
      · exact .inl ⟨k, m', n'.sameBut hs (by rw [fr.hL]; exact Ne.symm hbL), e⟩
      · obtain ⟨o, e1, e2⟩ := i; exact .inr (.inl ⟨k, a, e, o, (same a (ne hy e)).trans e1, e2⟩)
      · obtain ⟨o, e1, e2⟩ := i; exact .inr (.inr ⟨k, a, e, o, (same a (ne hy e)).trans e1, e2⟩)
    obtain ⟨k, p'⟩ := upd_pre (s' := { s with heap := h' }) p fr oO oE rfl hs (by obtain ⟨o, e, _⟩ := hv; exact ⟨o, e⟩)
      (fun vs k q => by obtain ⟨o, e, d⟩ := ic; rw [q] at e; cases e; cases d) ⟨m, nsL.sameBut hs (Ne.symm hbL), fun a o e => (same a fun q => by have := p.oh b oO oE; rw [← q, e] at this; cases this).trans (F.keep a o e), F.above⟩
      (fun y a e => by
        by_cases q : a = b
        · subst q; exact ⟨_, hv⟩
        · obtain ⟨_, _, w, o, e1, e2⟩ := p.oC y a e; exact ⟨w, o, (same a q).trans e1, e2⟩) hx
      (.inr (.inl ⟨hk, b, hb, hv⟩)) hw sto
    exact h _ k p' (.inr (.inl ⟨hk, b, hb, hv⟩)) hw fun b' vs k' e => (same b' fun q => by obtain ⟨o, e', d'⟩ := ic; rw [← q, e] at e'; cases e'; cases d').trans e
theorem st_store (p : SPre G c env names Oe O ρ s) (fr : Frm c env names) {i : Nat} {x : Str} {v : Value} {d : D} (hx : names[i]? = some x) (hk : env.kindOf x = some .local ∨ (env.kindOf x = some .cell ∧ (env.cells.lookup x).isSome = true)) (sto : Sto env names Oe O ρ s i v d)
    {Q : Unit → Shared → Prop} {E : Value → Shared → Prop} (h : ∀ s', Kp Oe O s s' O → SPre G c env names Oe O (setN ρ i d) s' → Q () s') : wpAny (model G.prog G.w) c.A (storeName env x v) Q E s :=
  st_storeV p fr hx hk sto fun s' a b _ _ _ => h s' a b
theorem fresh_own (p : SPre G c env names Oe O ρ s) (k : Ext s s') {a : Addr} (ha : s.heap.get? a = none) : ∀ (j : Nat) (y : Str) (l' : List D), names[j]? = some y → ρ[j]? = some (.own l') → ¬ VarAt env s'.heap y (.ref a) := fun j y l' h1 h2 va => by
  obtain ⟨a', vs', k', va', o, g, r⟩ := p.p.V j y _ h1 h2
  have := VarAt.fun va (va'.stays k.stays); cases this
  rw [ha] at g; cases g

/-- a fresh list becomes the frame's own -/
theorem own_new (co : c.OK G n) (p : SPre G c env names Oe O ρ s) {vs : Array Value} {k : Nat} (eq : s' = { s with heap := s.heap.push { cls := .type "list", data := .seq vs k } }) :
    Kp Oe O s s' (fun a => O a ∨ a = s.heap.objs.size) ∧ SPre G c env names Oe (fun a => O a ∨ a = s.heap.objs.size) ρ s' ∧ (¬ Oe s.heap.objs.size) ∧ s'.heap.get? s.heap.objs.size = some { cls := .type "list", data := .seq vs k } ∧
      ∀ (y : Str) (d : D), (∃ i : Nat, names[i]? = some y ∧ ρ[i]? = some (.own (match d with | .own l => l | _ => []))) → ¬ VarAt env s'.heap y (.ref s.heap.objs.size) := by
  have kx : Ext s s' := by rw [eq]; exact .push _ _
  have none_ : s.heap.get? s.heap.objs.size = none := by
    cases e : s.heap.get? s.heap.objs.size with
    | none => rfl
    | some o => exact absurd (Heap.lt_size e) (Nat.lt_irrefl _)
  have nO : ¬ O s.heap.objs.size := fun z => by obtain ⟨o, e⟩ := p.p.oe _ z; rw [none_] at e; cases e
  have q := p.ext kx
  have there : s'.heap.get? s.heap.objs.size = some { cls := .type "list", data := .seq vs k } := by rw [eq]; exact Heap.get?_push_size _ rfl
  obtain ⟨m, F⟩ := p.p.F
  have less : ∀ {v : Value} {d : D}, Rep O s.heap v d → Rep (fun a => O a ∨ a = s.heap.objs.size) s'.heap v d := fun r => r.imp fun a o e n _ => ⟨kx.stays _ _ e, fun z => by
    rcases z with z | z
    · exact n z
    · rw [z, none_] at e; cases e⟩
  have lessA : ∀ {v : List Value} {d : List D}, RepAll O s.heap v d → RepAll (fun a => O a ∨ a = s.heap.objs.size) s'.heap v d := fun r => r.imp fun a o e n _ => ⟨kx.stays _ _ e, fun z => by
    rcases z with z | z
    · exact n z
    · rw [z, none_] at e; cases e⟩
  refine ⟨⟨kx.eq, fun b o _ e => kx.stays _ _ e, fun b z => z.imp id fun e => by rw [e]; exact none_⟩, ⟨⟨q.p.F, fun a z => ?_, fun a z => ?_, fun i x d h1 h2 => ?_⟩, fun a z => .inl (p.sub a z), fun a z nz => ?_, ⟨.inl p.oL.1, p.oL.2⟩, fun x a e => ?_, q.own, q.inj⟩, fun z => nO (p.sub _ z), there, fun y d ⟨i, h1, h2⟩ va => ?_⟩
  · rcases z with z | z
    · exact p.p.oB a z
    · rw [z]
      cases e : G.hB.get? s.heap.objs.size with
      | none => rfl
      | some o => have := F.keep _ _ (co.stays _ _ e); rw [none_] at this; cases this
  · rcases z with z | z
    · exact q.p.oe a z
    · rw [z]; exact ⟨_, there⟩
  · have v0 := p.p.V i x d h1 h2
    cases d with
    | no => trivial
    | own l => obtain ⟨a, vs', k', va, o, g, r⟩ := v0; exact ⟨a, vs', k', va.stays kx.stays, .inl o, kx.stays _ _ g, lessA r⟩
    | _ => obtain ⟨v, a, r⟩ := v0; exact ⟨v, a.stays kx.stays, less r⟩
  · rcases z with z | z
    · exact p.oh a z nz
    · rw [z]
      cases e : c.h₀.get? s.heap.objs.size with
      | none => rfl
      | some o => have := F.keep _ _ e; rw [none_] at this; cases this
  · obtain ⟨h1, h2, h3⟩ := q.oC x a e
    exact ⟨.inl h1, h2, h3⟩
  · obtain ⟨a, vs', k', va', o, g, r⟩ := p.p.V i y _ h1 h2
    have := VarAt.fun va (va'.stays kx.stays); cases this
    rw [none_] at g; cases g
end
end Mine
end
section
open PySem PySem.W PyProof.Rows PySem.Calls PySem.Spec
namespace Mine

noncomputable def pair? : D → R (D × D)
  | .tup [a, b] => .ok (a, b)
  | .lst [a, b] => .ok (a, b)
  | _ => .st
noncomputable def rsP (x : R (D × D)) (f : D × D → RS) : RS := match x with
  | .ok d => f d
  | .rz k => .rz k
  | .st => .st
noncomputable def kOwnL (i : Nat) (f : CL) : B := fun ρ => rsL (f ρ) fun ds => bif shortL ds then .nx (setN ρ i (.own ds)) else .st
noncomputable def kMu (i j : Nat) (f g : C) : B := fun ρ => rsL (lCons f (lCons g lNil) ρ) fun ds => match ds with
  | [a, b] => .nx (setN (setN ρ j b) i a)
  | _ => .st
noncomputable def kUn (i j : Nat) (f : C) : B := fun ρ => rsOf (f ρ) fun d => rsP (pair? d) fun ab => .nx (setN (setN ρ i ab.1) j ab.2)
noncomputable def kOwn2 (i j : Nat) : B := fun ρ => .nx (setN (setN ρ j (.own [])) i (.own []))
noncomputable def kAp (i : Nat) (f : C) : B := fun ρ => match nth ρ i with
  | .own l => rsOf (f ρ) fun d => bif shortL l then .nx (setN ρ i (.own (l ++ [d]))) else .st
  | _ => .st
noncomputable def kFz (i : Nat) : B := fun ρ => match nth ρ i with
  | .own l => .nx (setN ρ i (.lst l))
  | _ => .st

section
variable {G : Gl} {c : Act} {env : Env} {names : List Str} {n : Nat} {Oe O : Addr → Prop} {ρ : List D} {s s' : Shared}

theorem nth_own {i : Nat} {l : List D} (h : nth ρ i = .own l) : ρ[i]? = some (.own l) := by
  rcases nth_get ρ i with q | q
  · rw [q] at h; cases h
  · rw [h] at q; exact q

theorem sim_kAs (fr : Frm c env names) {i : Nat} {x : Str} {value : Expr} {p' pos : Pos} {f : C} (hx : names[i]? = some x) (hk : env.kindOf x = some .local ∨ (env.kindOf x = some .cell ∧ (env.cells.lookup x).isSome = true)) (h : ESim G c env names value f)
    (hs : swapsWith value (some (.Name x p')) pos.line env = pure false) : SSim G c env names (.Assign [.Name x p'] value pos) (kAs i f) := by
  intro Oe O ρ s p Q E C
  refine wpAny_Assign_Name (sp_stmt rsOf_g p (h O ρ s p.p) C fun d v s₁ _ k r p₁ C' => ?_) hs
  exact st_store p₁ fr hx hk (.inl r) fun s₂ kp p₂ => C'.nx _ rfl _ _ kp p₂

theorem sim_kOwnL (co : c.OK G n) (fr : Frm c env names) {i : Nat} {x : Str} {es : List Expr} {p' lp pos : Pos} {f : CL} (hx : names[i]? = some x) (hk : env.kindOf x = some .local ∨ (env.kindOf x = some .cell ∧ (env.cells.lookup x).isSome = true)) (h : LSim G c env names es f) :
    SSim G c env names (.Assign [.Name x p'] (.List es lp) pos) (kOwnL i f) := by
  intro Oe O ρ s p Q E C
  refine wpAny_Assign_Name (wpAny_List (sp_stmt rsL_g p (h O ρ s lp p.p) C fun ds vs s₁ _ k r p₁ C' => ?_)) rfl
  cases hq : shortL ds with
  | false => rw [hq] at C'; exact absurd rfl C'.ns
  | true =>
    rw [hq] at C'
    have q' := Nat.le_of_ble_eq_true hq
    refine ⟨by rw [r.length, sizeLine_eq]; omega, ?_⟩
    obtain ⟨kp, p₂, nE, there, fresh⟩ := own_new (n := n) (s' := { s₁ with heap := s₁.heap.push { cls := .type "list", data := .seq vs.toArray } }) co p₁ (k := 0) rfl
    refine st_store p₂ fr hx hk (.inr ⟨ds, _, vs.toArray, 0, rfl, rfl, .inr rfl, nE, there, ?_, fun j y l' hj hy hl => fresh y (.own l') ⟨j, hy, hl⟩⟩) fun s₂ kp₂ p₃ => C'.nx _ rfl _ _ (kp.trans kp₂) p₃
    have := repAll_kp kp r
    simpa using this

theorem unpackItems_list {A : Around} {E : Value → Shared → Prop} {t : Addr} {a b : Value} {items : Array Value} {Q : List Value → Shared → Prop} (hh : A.handled = none) (ht : s.heap.IsList t items) (hi : items = #[a, b])
    (hQ : ∀ h', Heap.ExtBut s.heap.objs.size s.heap h' → Q [a, b] { s with heap := h' }) : wpAny (model G.prog G.w) A (unpackItems (.ref t) 2 none) Q E s := by
  have hlt : t ≠ s.heap.objs.size := by obtain ⟨o, ho, _⟩ := ht; exact Nat.ne_of_lt (Heap.lt_size ho)
  unfold unpackItems
  refine wpAny_bind ?_
  · unfold notIterableAtAll
    refine wpAny_bind (wpAny_specialOf ht.typeIs slot_list_iter.lookup ?_)
    refine wpAny_pure ?_
    simp only [Bool.false_eq_true, if_false]
    refine wpAny_bind (wpAny_holding (wpAny_pyIter_list ht ?_))
    have hd : wpAny (model G.prog G.w) A (draw (.ref s.heap.objs.size) 2) (fun l s₁ => l = [a, b] ∧ ∃ h₁, s₁ = { s with heap := h₁ } ∧ h₁.IsListIter s.heap.objs.size t 2 ∧ h₁.IsList t items ∧ Heap.ExtBut s.heap.objs.size s.heap h₁) E
        { s with heap := s.heap.push { cls := .type "list_iterator", data := .fields #[.ref t, .int 0 0] } } := by
      show wpAny _ _ (pyNext (.ref s.heap.objs.size) >>= _) _ E _
      refine wpAny_bind (wpAny_pyNext_list_item (i := 0) ⟨_, Heap.get?_push_size _ rfl, rfl, rfl⟩ (ht.push _) (x := a) (by rw [hi]; rfl) fun h₁ hit₁ hs₁ => ?_)
      refine wpAny_bind (wpAny_holding ?_)
      show wpAny _ _ (pyNext (.ref s.heap.objs.size) >>= _) _ E _
      have ht₁ : h₁.IsList t items := (ht.push _).extBut hs₁.extBut hlt
      refine wpAny_bind (wpAny_pyNext_list_item (i := 1) hit₁ ht₁ (x := b) (by rw [hi]; rfl) fun h₂ hit₂ hs₂ => ?_)
      refine wpAny_bind (wpAny_holding ?_)
      show wpAny _ _ (pure []) _ E _
      exact wpAny_pure (wpAny_pure (wpAny_pure ⟨rfl, h₂, rfl, hit₂, ht₁.extBut hs₂.extBut hlt, fun x o hx e => hs₂.extBut x o hx (hs₁.extBut x o hx (Heap.get?_push_of_some _ e))⟩))
    refine wpAny_bind (wpAny_holding (wpAny_mono hd (fun l s₁ hl => ?_) fun _ _ e => e))
    obtain ⟨rfl, h₁, rfl, hit₁, ht₁, he₁⟩ := hl
    rw [if_neg (by simp)]
    refine wpAny_bind (wpAny_holding (wpAny_pyNext_list_end hh hit₁ ht₁ (by rw [hi]; rfl) fun h₂ he₂ => ?_))
    simp only [Option.isSome_none, Bool.false_eq_true, if_false]
    exact wpAny_pure (hQ h₂ fun x o hx e => he₂ x o hx (he₁ x o hx e))

theorem stays_of_but {h h' : Heap} (k : Heap.ExtBut h.objs.size h h') : h.StaysIn h' := fun b o e => k b o (Nat.ne_of_lt (Heap.lt_size e)) e
theorem sp_pair (hh : c.A.handled = none) {v : Value} {d a b : D} (r : Rep O s.heap v d) (hp : pair? d = .ok (a, b)) {Q : List Value → Shared → Prop} {E : Value → Shared → Prop} (h : ∀ s' x y, Ext s s' → Rep O s'.heap x a → Rep O s'.heap y b → Q [x, y] s') :
    wpAny (model G.prog G.w) c.A (unpackItems v 2 none) Q E s := by
  unfold pair? at hp
  split at hp
  · cases hp
    cases r with
    | tup e n1 c1 d1 al =>
      rename_i vs k
      obtain ⟨l⟩ := vs
      cases al with
      | cons ra al => cases al with
        | cons rb al => cases al
                        exact unpackItems_tuple (items := ⟨[_, _]⟩) hh ⟨_, e, c1, _, d1⟩ fun h' he => h _ _ _ (.heap' (stays_of_but he)) (ra.stays (stays_of_but he)) (rb.stays (stays_of_but he))
  · cases hp
    cases r with
    | lst e n1 al =>
      rename_i vs k
      obtain ⟨l⟩ := vs
      cases al with
      | cons ra al => cases al with
        | cons rb al => cases al
                        exact unpackItems_list (items := ⟨[_, _]⟩) hh ⟨_, e, rfl, _, rfl⟩ rfl fun h' he => h _ _ _ (.heap' (stays_of_but he)) (ra.stays (stays_of_but he)) (rb.stays (stays_of_but he))
  · cases hp

theorem sim_kUn (co : c.OK G n) (fr : Frm c env names) {i j : Nat} {x y : Str} {value : Expr} {k : Nat} {p1 p2 tp pos : Pos} {f : C} (hx : names[i]? = some x) (hy : names[j]? = some y)
    (hkx : env.kindOf x = some .local ∨ (env.kindOf x = some .cell ∧ (env.cells.lookup x).isSome = true)) (hky : env.kindOf y = some .local ∨ (env.kindOf y = some .cell ∧ (env.cells.lookup y).isSome = true)) (h : ESim G c env names value f)
    (hs : swapsWithSole [.Tuple [.Name x p1, .Name y p2] k tp] value pos.line env = pure false) (hw : swappedStores [.Tuple [.Name x p1, .Name y p2] k tp] value env = pure none) :
    SSim G c env names (.Assign [.Tuple [.Name x p1, .Name y p2] k tp] value pos) (kUn i j f) := by
  intro Oe O ρ s p Q E C
  refine Assign_Tuple (sp_stmt rsOf_g p (h O ρ s p.p) C fun d v s₁ _ k₁ r p₁ C' => ?_) hs hw
  cases hp : pair? d with
  | st => rw [hp] at C'; exact absurd rfl C'.ns
  | rz k => cases d <;> simp [pair?] at hp <;> split at hp <;> cases hp
  | ok ab =>
    obtain ⟨a, b⟩ := ab
    rw [hp] at C'
    rw [PyProof.Rows.assign_Tuple]
    refine wpAny_bind (wpAny_standAt ?_)
    have he : assignEach [.Name x p1, .Name y p2] env = [(false, assign (.Name x p1) env), (false, assign (.Name y p2) env)] := rfl
    rw [he]
    show wpAny _ _ (do assignInOrder [assign (.Name x p1) env, assign (.Name y p2) env] (← holding [v] (unpackItems v 2 none))) _ _ _
    refine wpAny_bind (wpAny_holding (sp_pair co.hh r hp fun s₂ xv yv k₂ ra rb => ?_))
    show wpAny _ _ (do holding [yv] (assign (.Name x p1) env xv); holding [] (assign (.Name y p2) env yv); pure ()) _ _ _
    refine wpAny_bind (wpAny_holding (wpAny_assign_Name (st_store (p₁.ext k₂) fr hx hkx (.inl ra) fun s₃ kp₃ p₃ => ?_)))
    refine wpAny_bind (wpAny_holding (wpAny_assign_Name (st_store p₃ fr hy hky (.inl (rep_kp kp₃ rb)) fun s₄ kp₄ p₄ => ?_)))
    exact wpAny_pure (C'.nx _ rfl _ _ ((Kp.ofExt k₂).trans (kp₃.trans kp₄)) p₄)

theorem sim_kMu (co : c.OK G n) (fr : Frm c env names) {i j : Nat} {x y : Str} {e1 e2 : Expr} {k k' : Nat} {p1 p2 tp vp pos : Pos} {f g : C} (hx : names[i]? = some x) (hy : names[j]? = some y)
    (hkx : env.kindOf x = some .local ∨ (env.kindOf x = some .cell ∧ (env.cells.lookup x).isSome = true)) (hky : env.kindOf y = some .local ∨ (env.kindOf y = some .cell ∧ (env.cells.lookup y).isSome = true)) (h : LSim G c env names [e1, e2] (lCons f (lCons g lNil)))
    (hs : swapsWithSole [.Tuple [.Name x p1, .Name y p2] k tp] (.Tuple [e1, e2] k' vp) pos.line env = pure false) (hw : swappedStores [.Tuple [.Name x p1, .Name y p2] k tp] (.Tuple [e1, e2] k' vp) env = pure (some [x, y])) :
    SSim G c env names (.Assign [.Tuple [.Name x p1, .Name y p2] k tp] (.Tuple [e1, e2] k' vp) pos) (kMu i j f g) := by
  intro Oe O ρ s p Q E C
  refine Assign_Tuple_swapped (wpAny_Tuple (sp_stmt rsL_g p (h O ρ s vp p.p) C fun ds vs s₁ _ k₁ r p₁ C' => ?_)) hs hw
  cases r with
  | nil => exact absurd rfl C'.ns
  | @cons va _ a _ ra r => cases r with
    | nil => exact absurd rfl C'.ns
    | @cons vb _ b _ rb r => cases r with
      | cons _ _ => exact absurd rfl C'.ns
      | nil =>
        refine ⟨by rw [sizeLine_eq]; simp, ?_⟩
        have kx : Ext s₁ { s₁ with heap := s₁.heap.push { cls := .type "tuple", data := .seq [va, vb].toArray } } := .push _ _
        have r0 : Rep O (s₁.heap.push { cls := .type "tuple", data := .seq [va, vb].toArray }) (.ref s₁.heap.objs.size) (.tup [a, b]) := rep_newT p₁.p.oe rfl rfl (.cons ra (.cons rb .nil))
        show wpAny _ _ (unpackItems (.ref s₁.heap.objs.size) 2 none) _ _ _
        refine sp_pair (s := { s₁ with heap := s₁.heap.push { cls := .type "tuple", data := .seq [va, vb].toArray } }) co.hh r0 rfl fun s₂ xv yv k₂ ra rb => ?_
        show wpAny _ _ (do holding [xv] (bindName env y yv); holding [] (bindName env x xv); pure ()) _ _ _
        have p₂ := (p₁.ext kx).ext k₂
        refine wpAny_bind (wpAny_holding (wpAny_bindName (st_store p₂ fr hy hky (.inl rb) fun s₃ kp₃ p₃ => ?_)))
        refine wpAny_bind (wpAny_holding (wpAny_bindName (st_store p₃ fr hx hkx (.inl (rep_kp kp₃ ra)) fun s₄ kp₄ p₄ => ?_)))
        exact wpAny_pure (C'.nx _ rfl _ _ ((Kp.ofExt (kx.trans k₂)).trans (kp₃.trans kp₄)) p₄)
end
end Mine
end
section
open PySem PySem.W PyProof.Rows PySem.Calls PySem.Spec
namespace Mine

section
variable {G : Gl} {c : Act} {env : Env} {names : List Str} {n : Nat} {Oe O : Addr → Prop} {ρ : List D} {s s' : Shared}

/-- the frame gives up its own list: from here on it is frozen -/
theorem fz_pre (p : SPre G c env names Oe O ρ s) (nd : names.Nodup) {i : Nat} {x : Str} {l : List D} (hx : names[i]? = some x) (hl : nth ρ i = .own l) : ∃ O', Kp Oe O s s O' ∧ SPre G c env names Oe O' (setN ρ i (.lst l)) s := by
  have hρ := nth_own hl
  obtain ⟨a, vs, k, va, oa, ga, ra⟩ := p.p.V i x _ hx hρ
  have na := p.own i x l a hx hρ va
  have less : ∀ {v : Value} {d : D}, Rep O s.heap v d → Rep (fun b => O b ∧ b ≠ a) s.heap v d := fun r => r.less fun _ h => h.1
  obtain ⟨m, F⟩ := p.p.F
  have hLa : c.L ≠ a := fun q => by
    obtain ⟨o, es, ep, e, d, _⟩ := F.ns
    rw [q, ga] at e; cases e; cases d
  refine ⟨fun b => O b ∧ b ≠ a, ⟨rfl, fun _ _ _ e => e, fun b h => .inl h.1⟩, ⟨⟨p.p.F, fun b h => p.p.oB b h.1, fun b h => p.p.oe b h.1, fun j y d hj hd => ?_⟩, fun b h => ⟨p.sub b h, fun q => na (q ▸ h)⟩, fun b h nh => p.oh b h.1 nh, ⟨⟨p.oL.1, hLa⟩, p.oL.2⟩, fun y b e => ?_, fun j y l' b hj hd vb => ?_, fun j j' y y' l₁ l₂ b hj hj' hd hd' vb vb' => ?_⟩⟩
  · rcases setN_get ρ i _ j d hd with ⟨rfl, rfl⟩ | ⟨hji, hd⟩
    · rw [hx] at hj; cases hj
      exact ⟨_, va, .lst ga (fun h => h.2 rfl) (ra.less fun _ h => h.1)⟩
    · have v0 := p.p.V j y d hj hd
      cases d with
      | no => trivial
      | own l' =>
        obtain ⟨b, vs', k', vb, ob, gb, rb⟩ := v0
        refine ⟨b, vs', k', vb, ⟨ob, fun q => hji ?_⟩, gb, rb.less fun _ h => h.1⟩
        subst q
        exact p.inj j i y x l' l _ hj hx hd hρ vb va
      | _ => obtain ⟨v, w, r⟩ := v0; exact ⟨v, w, less r⟩
  · obtain ⟨h1, h2, v, o, e1, e2⟩ := p.oC y b e
    exact ⟨⟨h1, fun q => by rw [q, ga] at e1; cases e1; cases e2⟩, h2, v, o, e1, e2⟩
  · rcases setN_get ρ i _ j _ hd with ⟨_, q⟩ | ⟨_, hd⟩
    · cases q
    · exact p.own j y l' b hj hd vb
  · rcases setN_get ρ i _ j _ hd with ⟨_, q⟩ | ⟨_, hd⟩
    · cases q
    · rcases setN_get ρ i _ j' _ hd' with ⟨_, q⟩ | ⟨_, hd'⟩
      · cases q
      · exact p.inj j j' y y' l₁ l₂ b hj hj' hd hd' vb vb'
theorem sim_kFz (fr : Frm c env names) {sts : List Stmt} {i : Nat} {x : Str} {b : B} (hx : names[i]? = some x) (h : BSim G c env names sts b) : BSim G c env names sts (bCons (kFz i) b) := by
  intro Oe O ρ s p Q E C
  unfold bCons kFz at C
  cases hl : nth ρ i with
  | own l =>
    rw [hl] at C
    obtain ⟨O', kp, p'⟩ := fz_pre p fr.nd hx hl
    exact h Oe O' _ s p' Q E ⟨fun ρ' e O'' s' kp' p'' => C.nx ρ' e O'' s' (kp.trans kp') p'', fun d e r s' eq F rp => C.rt d e r s' eq F rp, C.rz, C.ns⟩
  | _ => rw [hl] at C; exact absurd rfl C.ns

theorem app_pre (p : SPre G c env names Oe O ρ s) (fr : Frm c env names) {i : Nat} {x : Str} {l : List D} {d : D} {v : Value} {a : Addr} {vs : Array Value} {k : Nat} (hx : names[i]? = some x) (hl : nth ρ i = .own l) (va : VarAt env s.heap x (.ref a)) (ga : s.heap.get? a = some { cls := .type "list", data := .seq vs k })
    (r : Rep O s.heap v d) {h' : Heap} (hs : Heap.SameBut a s.heap h') (hg : h'.get? a = some { cls := .type "list", data := .seq (vs.push v) (k + 1) }) :
    Kp Oe O s { s with heap := h' } O ∧ SPre G c env names Oe O (setN ρ i (.own (l ++ [d]))) { s with heap := h' } := by
  have hρ := nth_own hl
  obtain ⟨a', vs', k', va', oa, ga', ra⟩ := p.p.V i x _ hx hρ
  have := VarAt.fun va va'; cases this
  rw [ga] at ga'; cases ga'
  have na := p.own i x l a hx hρ va
  have same : ∀ b, b ≠ a → h'.get? b = s.heap.get? b := hs.2
  obtain ⟨m, F⟩ := p.p.F
  have hLa : c.L ≠ a := fun q => by
    obtain ⟨o, es, ep, e, d, _⟩ := F.ns
    rw [q, ga] at e; cases e; cases d
  have cellNe : ∀ {b w}, s.heap.IsCell b w → b ≠ a := fun {b w} ⟨o, e1, e2⟩ q => by rw [q, ga] at e1; cases e1; cases e2
  have nsNe : ∀ {b m}, s.heap.Ns b m → b ≠ a := fun {b m} ⟨o, es, ep, e, d, _⟩ q => by rw [q, ga] at e; cases e; cases d
  have up : ∀ {y w}, VarAt env s.heap y w → VarAt env h' y w := fun {y w} z => by
    rcases z with ⟨q, m', n', e⟩ | ⟨q, b, e, i⟩ | ⟨q, b, e, i⟩
    · exact .inl ⟨q, m', n'.sameBut hs (nsNe n'), e⟩
    · have nb := cellNe i; obtain ⟨o, e1, e2⟩ := i; exact .inr (.inl ⟨q, b, e, o, (same b nb).trans e1, e2⟩)
    · have nb := cellNe i; obtain ⟨o, e1, e2⟩ := i; exact .inr (.inr ⟨q, b, e, o, (same b nb).trans e1, e2⟩)
  have ownat : ∀ {j : Nat} {y : Str} {l : List D}, names[j]? = some y → ρ[j]? = some (.own l) → ∃ a vs k, VarAt env s.heap y (.ref a) ∧ O a ∧ s.heap.get? a = some { cls := .type "list", data := .seq vs k } ∧ RepAll O s.heap vs.toList l := fun h1 h2 => p.p.V _ _ _ h1 h2
  have old : ∀ {j : Nat} {l' : List D}, (setN ρ i (.own (l ++ [d])))[j]? = some (.own l') → ∃ l'', ρ[j]? = some (.own l'') := fun {j l'} h => by
    rcases setN_get ρ i _ j _ h with ⟨q, _⟩ | ⟨_, h⟩
    · exact ⟨l, q ▸ hρ⟩
    · exact ⟨l', h⟩
  refine ⟨⟨rfl, fun b o h e => (same b fun q => by
    subst q
    rcases h with h | h
    · exact h oa
    · exact na h).trans e, fun _ h => .inl h⟩, ⟨⟨⟨m, F.ns.sameBut hs hLa, fun b o e => (same b fun q => ?_).trans (F.keep b o e), F.above⟩, p.p.oB, fun b h => ?_, fun j y e hj he => ?_⟩, p.sub, p.oh, p.oL, fun y b e => ?_, fun j y l' b hj hd vb => ?_, fun j j' y y' l₁ l₂ b hj hj' hd hd' vb vb' => ?_⟩⟩
  · have := p.oh a oa na
    rw [← q, e] at this; cases this
  · by_cases q : b = a
    · subst q; exact ⟨_, hg⟩
    · obtain ⟨o, e⟩ := p.p.oe b h
      exact ⟨o, (same b q).trans e⟩
  · rcases setN_get ρ i _ j e he with ⟨rfl, rfl⟩ | ⟨hji, he⟩
    · rw [hx] at hj; cases hj
      refine ⟨a, _, _, up va, oa, hg, ?_⟩
      rw [Array.toList_push]
      exact (repAll_but oa hs ra).append (.cons (rep_but oa hs r) .nil)
    · have v0 := p.p.V j y e hj he
      cases e with
      | no => trivial
      | own l' =>
        obtain ⟨b, vs', k', vb, ob, gb, rb⟩ := v0
        refine ⟨b, vs', k', up vb, ob, (same b fun q => hji ?_).trans gb, repAll_but oa hs rb⟩
        subst q
        exact p.inj j i y x l' l _ hj hx he hρ vb va
      | _ => obtain ⟨v, w, r⟩ := v0; exact ⟨v, up w, rep_but oa hs r⟩
  · obtain ⟨h1, h2, v, ic⟩ := p.oC y b e
    have nb := cellNe ic
    obtain ⟨o, e1, e2⟩ := ic
    exact ⟨h1, h2, v, o, (same b nb).trans e1, e2⟩
  · obtain ⟨l'', hd⟩ := old hd
    obtain ⟨b', _, _, vb', _⟩ := ownat hj hd
    have := VarAt.fun vb (up vb'); cases this
    exact p.own j y l'' _ hj hd vb'
  · obtain ⟨l₁', hd⟩ := old hd
    obtain ⟨l₂', hd'⟩ := old hd'
    obtain ⟨b', _, _, w, _⟩ := ownat hj hd
    obtain ⟨b'', _, _, w', _⟩ := ownat hj' hd'
    have e1 := VarAt.fun vb (up w); cases e1
    have e2 := VarAt.fun vb' (up w'); cases e2
    exact p.inj j j' y y' l₁' l₂' _ hj hj' hd hd' w w'

theorem sim_kAp (fr : Frm c env names) {i : Nat} {x : Str} {elt : Expr} {np apos cpos pos : Pos} {f : C} (hx : names[i]? = some x) (h : ESim G c env names elt f) (hd : (x == ("__debug__" : Str)) = false) (hn : (x == ("__classdict__" : Str)) = false)
    (hi : interactive env = false) (hs : swapsWith (.Call (.Attribute (.Name x np) "append" apos) [elt] [] cpos) none pos.line env = pure false) (hbase : attributeBase (.Name x np) "append" env (eval (.Name x np) env) = eval (.Name x np) env)
    (hfew : ((backTo cpos (starEach [elt] env)).all (fun x => !x.1) && (backToKw cpos (keywordEach [] env)).all (fun x => x.1.isSome) && decide (([elt] : List Expr).length + ([] : List Keyword).length + (if ([] : List Keyword).isEmpty then 0 else 1) < 30)) = true)
    (hline : (apos.endLine == cpos.line) = true) (htrees : backTo cpos (starEach [elt] env) = [(false, eval elt env)]) :
    SSim G c env names (.Expr (.Call (.Attribute (.Name x np) "append" apos) [elt] [] cpos) pos) (kAp i f) := by
  intro Oe O ρ s p Q E C
  unfold kAp at C
  cases hl : nth ρ i with
  | own l =>
    rw [hl] at C
    have hρ := nth_own hl
    obtain ⟨a, vs, k, va, oa, ga, ra⟩ := p.p.V i x _ hx hρ
    refine wpAny_Expr (wpAny_Call_append hbase hfew hline htrees (load_at fr.eo va hd hn ⟨a, vs, rfl, ⟨_, k, ga, rfl, rfl, rfl⟩, ?_⟩)) hi hs
    refine sp_stmt rsOf_g p (h O ρ s p.p) C fun d v s₁ _ k₁ r p₁ C' => ?_
    cases hq : shortL l with
    | false => rw [hq] at C'; exact absurd rfl C'.ns
    | true =>
      rw [hq] at C'
      have q' := Nat.le_of_ble_eq_true hq
      have hlen := ra.length
      rw [Array.length_toList] at hlen
      refine append_at (k₁.stays _ _ ga) (fun h' hs' hg => ?_) (by rw [hlen, sizeLine_eq]; omega)
      obtain ⟨kp, p₂⟩ := app_pre p₁ fr hx hl (va.stays k₁.stays) (k₁.stays _ _ ga) r hs' hg
      exact C'.nx _ rfl _ _ kp p₂
  | _ => rw [hl] at C; exact absurd rfl C.ns

theorem sim_kOwn2 (co : c.OK G n) (fr : Frm c env names) {i j : Nat} {x y : Str} {k k' : Nat} {p1 p2 p3 p4 tp vp pos : Pos} (hx : names[i]? = some x) (hy : names[j]? = some y) (hij : i ≠ j)
    (hkx : env.kindOf x = some .local ∨ (env.kindOf x = some .cell ∧ (env.cells.lookup x).isSome = true)) (hky : env.kindOf y = some .local ∨ (env.kindOf y = some .cell ∧ (env.cells.lookup y).isSome = true))
    (hs : swapsWithSole [.Tuple [.Name x p1, .Name y p2] k tp] (.Tuple [.List [] p3, .List [] p4] k' vp) pos.line env = pure false) (hw : swappedStores [.Tuple [.Name x p1, .Name y p2] k tp] (.Tuple [.List [] p3, .List [] p4] k' vp) env = pure (some [x, y])) :
    SSim G c env names (.Assign [.Tuple [.Name x p1, .Name y p2] k tp] (.Tuple [.List [] p3, .List [] p4] k' vp) pos) (kOwn2 i j) := by
  intro Oe O ρ s p Q E C
  refine Assign_Tuple_swapped (wpAny_Tuple (args_cons (wpAny_List (spliced_nil ⟨by rw [sizeLine_eq]; simp, ?_⟩)) rfl)) hs hw
  obtain ⟨kp1, q1, nE1, there1, fresh1⟩ := own_new (n := n) (s' := { s with heap := s.heap.push { cls := .type "list", data := .seq ([] : List Value).toArray } }) co p (k := 0) rfl
  refine args_cons (wpAny_List (spliced_nil ⟨by rw [sizeLine_eq]; simp, ?_⟩)) rfl
  obtain ⟨kp2, q2, nE2, there2, fresh2⟩ := own_new (n := n) (s' := { s with heap := (s.heap.push { cls := .type "list", data := .seq ([] : List Value).toArray }).push { cls := .type "list", data := .seq ([] : List Value).toArray } }) co q1 (k := 0) rfl
  refine args_nil ⟨by rw [sizeLine_eq]; simp, ?_⟩
  have none1 : s.heap.get? s.heap.objs.size = none := Heap.get?_none_of_le (Nat.le_refl _)
  have none2 : s.heap.get? (s.heap.push { cls := .type "list", data := .seq ([] : List Value).toArray }).objs.size = none := Heap.get?_none_of_le (by rw [Heap.size_push]; exact Nat.le_succ _)
  have ne12 : (s.heap.push { cls := .type "list", data := .seq ([] : List Value).toArray }).objs.size ≠ s.heap.objs.size := by rw [Heap.size_push]; exact Nat.succ_ne_self _
  generalize hA1 : s.heap.objs.size = a1 at *
  generalize hA2 : (s.heap.push { cls := .type "list", data := .seq ([] : List Value).toArray }).objs.size = a2 at *
  have k02 : Ext s { s with heap := (s.heap.push { cls := .type "list", data := .seq ([] : List Value).toArray }).push { cls := .type "list", data := .seq ([] : List Value).toArray } } := (Ext.push s _).trans (Ext.push { s with heap := s.heap.push { cls := .type "list", data := .seq ([] : List Value).toArray } } _)
  have there1' : ((s.heap.push { cls := .type "list", data := .seq ([] : List Value).toArray }).push { cls := .type "list", data := .seq ([] : List Value).toArray }).get? a1 = some { cls := .type "list", data := .seq ([] : List Value).toArray } := Heap.get?_push_of_some _ there1
  generalize hS2 : ({ s with heap := (s.heap.push { cls := .type "list", data := .seq ([] : List Value).toArray }).push { cls := .type "list", data := .seq ([] : List Value).toArray } } : Shared) = s₂ at *
  have hh2 : s₂.heap = (s.heap.push { cls := .type "list", data := .seq ([] : List Value).toArray }).push { cls := .type "list", data := .seq ([] : List Value).toArray } := by rw [← hS2]
  rw [← hh2] at there1'
  have k23 : Ext s₂ { s₂ with heap := s₂.heap.push { cls := .type "tuple", data := .seq [.ref a1, .ref a2].toArray } } := .push _ _
  show wpAny _ _ (unpackItems (.ref s₂.heap.objs.size) 2 none) _ _ _
  refine unpackItems_tuple (s := { s₂ with heap := s₂.heap.push { cls := .type "tuple", data := .seq [.ref a1, .ref a2].toArray } }) (items := ⟨[.ref a1, .ref a2]⟩) co.hh ⟨_, Heap.get?_push_size _ rfl, rfl, _, rfl⟩ fun h' he => ?_
  have k24 := k23.trans (Ext.heap' (stays_of_but he))
  have q3 := q2.ext k24
  show wpAny _ _ (do holding [.ref a1] (bindName env y (.ref a2)); holding [] (bindName env x (.ref a1)); pure ()) _ _ _
  refine wpAny_bind (wpAny_holding (wpAny_bindName (st_storeV q3 fr hy hky (.inr ⟨[], a2, _, _, rfl, rfl, .inr rfl, nE2, k24.stays _ _ there2, .nil, fun j' y' l' _ h1 h2 => fresh_own p (k02.trans k24) none2 j' y' l' h1 h2⟩) fun s₄ kp₄ p₄ vy wy ly => ?_)))
  refine wpAny_bind (wpAny_holding (wpAny_bindName (st_store p₄ fr hx hkx (.inr ⟨[], a1, _, _, rfl, rfl, .inl (.inr rfl), nE1, ly _ _ _ (k24.stays _ _ there1'), .nil, fun j' y' l' hj' h1 h2 vb => ?_⟩) fun s₅ kp₅ p₅ => ?_)))
  · rcases setN_get ρ j _ j' _ h2 with ⟨q, _⟩ | ⟨hj2, h2⟩
    · rw [q, hy] at h1; cases h1
      have := VarAt.fun vb vy; cases this
      exact ne12 rfl
    · obtain ⟨b', _, _, vb', _, g, _⟩ := p.p.V j' y' _ h1 h2
      have hne : y' ≠ y := fun q => by
        subst q
        obtain ⟨z1, z1'⟩ := List.getElem?_eq_some_iff.mp h1
        obtain ⟨z2, z2'⟩ := List.getElem?_eq_some_iff.mp hy
        exact hj2 ((List.getElem_inj fr.nd).mp (z1'.trans z2'.symm))
      have := VarAt.fun vb (wy y' _ hne (vb'.stays (k02.trans k24).stays)); cases this
      rw [none1] at g; cases g
  · exact wpAny_pure (C.nx _ rfl _ _ (kp1.trans (kp2.trans ((Kp.ofExt k24).trans (kp₄.trans kp₅)))) p₅)
end
end Mine
end
section
open PySem PySem.W PyProof.Rows PySem.Calls PySem.Spec
namespace Mine

noncomputable def whD (t : CB) (b : B) : Nat → List D → RS
  | 0, _ => .st
  | n + 1, ρ => match t ρ with
    | .ok true => (match b ρ with
      | .nx ρ' => whD t b n ρ'
      | .rt d => .rt d
      | _ => .st)
    | .ok false => .nx ρ
    | _ => .st
noncomputable def kWh (f : Nat) (t : CB) (b : B) : B := fun ρ => whD t b f ρ
noncomputable def foD (i : Nat) (b : B) : List D → List D → RS
  | [], ρ => .nx ρ
  | d :: r, ρ => match b (setN ρ i d) with
    | .nx ρ' => foD i b r ρ'
    | .rt d => .rt d
    | _ => .st
noncomputable def kFo (i : Nat) (src : CL) (b : B) : B := fun ρ => rsL (src ρ) fun ds => foD i b ds ρ
noncomputable def itemsD : D → R (List D)
  | .lst l => if shortL l = true then .ok l else .st
  | .tup l => if shortL l = true then .ok l else .st
  | _ => .st
noncomputable def sS (f : C) : CL := fun ρ => (f ρ).bind itemsD
noncomputable def upI (a : Int) : Nat → List D
  | 0 => []
  | n + 1 => .int a :: upI (a + 1) n
noncomputable def rangeD : List D → R (List D)
  | [.int b] => if Nat.blt b.natAbs 1000 = true then .ok (upI 0 b.toNat) else .st
  | [.int a, .int b] => if (Nat.blt a.natAbs 1000 && Nat.blt b.natAbs 1000) = true then .ok (upI a (b - a).toNat) else .st
  | _ => .st
noncomputable def sR (f : CL) : CL := fun ρ => (f ρ).bind rangeD

theorem upI_len (a : Int) : ∀ n, (upI a n).length = n := by
  intro n
  induction n generalizing a with
  | zero => rfl
  | succ n ih => rw [upI, List.length_cons, ih]
theorem upI_get : ∀ (n i : Nat) (a : Int), i < n → (upI a n)[i]? = some (.int (a + i))
  | 0, i, a, h => absurd h (Nat.not_lt_zero _)
  | n + 1, 0, a, _ => by simp [upI]
  | n + 1, i + 1, a, h => by
    rw [upI, List.getElem?_cons_succ, upI_get n i (a + 1) (Nat.lt_of_succ_lt_succ h)]
    congr 2
    omega

structure ItOk (G : Gl) (c : Act) (tg : Expr) (O : Addr → Prop) (h : Heap) (I : Addr) (ds : List D) : Prop where
  ex : ∃ fp P St, Walks G.prog G.w c.A I fp [I] ds.length P St ∧ St 0 h ∧ (∀ b ∈ fp, b = I ∨ (¬ O b ∧ ∃ o, h.get? b = some o)) ∧ (∀ i v, i < ds.length → P i v → ∃ d, ds[i]? = some d ∧ Rep (fun a => O a ∨ a = I) h v d) ∧
    (∀ i v s (Q : Unit → Shared → Prop) (E : Value → Shared → Prop), St i s.heap → Q () s → wpAny (model G.prog G.w) c.A (letOwnedTupleGo tg (.ref I) v) Q E s) ∧ ∀ i h', St i h' → ∃ o, h'.get? I = some o
noncomputable def ISim (G : Gl) (c : Act) (env : Env) (names : List Str) (tg iter : Expr) (src : CL) : Prop :=
  ∀ O ρ s, Pre G c O env names ρ s → SpT G c (fun h' (v : Value) ds => ∃ I, v = .ref I ∧ s.heap.get? I = none ∧ ItOk G c tg O h' I ds) s (fun Q E s => wpAny (model G.prog G.w) c.A (eval iter env) (fun x s₁ => wpAny (model G.prog G.w) c.A (pyIter x) Q E s₁) E s) (src ρ)

section
variable {G : Gl} {c : Act} {env : Env} {names : List Str} {n : Nat} {Oe O : Addr → Prop} {ρ : List D} {s s' : Shared}

theorem none_at (h : Heap) : h.get? h.objs.size = none := Heap.get?_none_of_le (Nat.le_refl _)
theorem none_ext {s s' : Shared} (k : Ext s s') {a : Addr} (h : s'.heap.get? a = none) : s.heap.get? a = none := by
  cases e : s.heap.get? a with
  | none => rfl
  | some o => have := k.stays _ _ e; rw [h] at this; cases this

theorem simI_S (co : c.OK G n) {tg iter : Expr} {f : C} (h : ESim G c env names iter f) : ISim G c env names tg iter (sS f) := by
  intro O ρ s p Q E C
  refine sp_seq (Rel' := fun h' (v : Value) ds => ∃ I, v = .ref I ∧ s.heap.get? I = none ∧ ItOk G c tg O h' I ds) (T := fun x Q E s₁ => wpAny (model G.prog G.w) c.A (pyIter x) Q E s₁) (h O ρ s p) (fun d v s₁ hd k₁ r => ?_) Q E C
  clear C
  intro Q E C
  unfold itemsD at C
  split at C
  · rename_i l
    split at C
    · cases r with
      | @lst a vs kk _ e1 n1 al =>
        have hL := RepAll.isList e1
        have hlen := al.length
        rw [Array.length_toList] at hlen
        have W := Walks.list (prog := G.prog) (w := G.w) co.hh s₁.heap.objs.size a (Nat.ne_of_lt (Heap.lt_size e1)) vs
        rw [hlen] at W
        refine wpAny_pyIter_list hL (C.ok _ rfl _ _ (.push _ _) ⟨_, rfl, none_ext k₁ (none_at _), ⟨_, _, _, W, ⟨⟨_, Heap.get?_push_size _ rfl, rfl, rfl⟩, hL.push _⟩, fun b hb => ?_, fun i v hi hP => ?_, fun i v s Q E st q => letGo_listiter st.1 q, fun i h' st => ?_⟩⟩)
        · rcases List.mem_cons.mp hb with rfl | hb
          · exact .inl rfl
          · rw [List.mem_singleton.mp hb]; exact .inr ⟨n1, _, Heap.get?_push_of_some _ e1⟩
        · obtain ⟨d, hd⟩ : ∃ d, l[i]? = some d := ⟨_, List.getElem?_eq_getElem hi⟩
          obtain ⟨w, hw, rw'⟩ := al.get hd
          rw [Array.getElem?_toList] at hw
          rw [hP] at hw; cases hw
          exact ⟨d, hd, rw'.imp fun a o e nO _ => ⟨Heap.get?_push_of_some _ e, fun z => z.elim nO fun q => by rw [q, none_at] at e; cases e⟩⟩
        · obtain ⟨o, e, _⟩ := st.1; exact ⟨o, e⟩
    · exact absurd rfl C.ns
  · rename_i l
    split at C
    · cases r with
      | @tup a o vs kk _ e1 n1 c1 d1 al =>
        have hL : s₁.heap.IsTuple a vs := ⟨_, e1, c1, _, d1⟩
        have hlen := al.length
        rw [Array.length_toList] at hlen
        have W := Walks.tuple (prog := G.prog) (w := G.w) co.hh s₁.heap.objs.size a (Nat.ne_of_lt (Heap.lt_size e1)) vs
        rw [hlen] at W
        refine wpAny_pyIter_tuple hL (C.ok _ rfl _ _ (.push _ _) ⟨_, rfl, none_ext k₁ (none_at _), ⟨_, _, _, W, ⟨⟨_, Heap.get?_push_size _ rfl, rfl, rfl⟩, ⟨o, Heap.get?_push_of_some _ e1, c1, _, d1⟩⟩, fun b hb => ?_, fun i v hi hP => ?_, fun i v s Q E st q => letGo_tupleiter st.1 q, fun i h' st => ?_⟩⟩)
        · rcases List.mem_cons.mp hb with rfl | hb
          · exact .inl rfl
          · rw [List.mem_singleton.mp hb]; exact .inr ⟨n1, _, Heap.get?_push_of_some _ e1⟩
        · obtain ⟨d, hd⟩ : ∃ d, l[i]? = some d := ⟨_, List.getElem?_eq_getElem hi⟩
          obtain ⟨w, hw, rw'⟩ := al.get hd
          rw [Array.getElem?_toList] at hw
          rw [hP] at hw; cases hw
          exact ⟨d, hd, rw'.imp fun a o e nO _ => ⟨Heap.get?_push_of_some _ e, fun z => z.elim nO fun q => by rw [q, none_at] at e; cases e⟩⟩
        · obtain ⟨o, e, _⟩ := st.1; exact ⟨o, e⟩
    · exact absurd rfl C.ns
  · exact absurd rfl C.ns

theorem range_size1 (a b : Int) : Builtin.Range.rangeSize a b 1 = (((b - a).toNat : Nat) : Int) := by
  unfold Builtin.Range.rangeSize
  rw [if_pos (by decide)]
  split <;> (first | (rw [Int.ediv_one]; omega) | omega)
theorem range_iter (co : c.OK G n) {tg : Expr} (htg : ∀ it v, letOwnedTupleGo tg it v = pure ()) {s₀ : Shared} {a b : Int} {t u v : Tok} {r : Addr} {Q : Value → Shared → Prop} {E : Value → Shared → Prop} (k₁ : Ext s₀ s) (hr : IsRange s.heap r a b 1 t u v) (ha : a.natAbs < 1000) (hb : b.natAbs < 1000)
    (C : Conts G c (fun h' (v : Value) ds => ∃ I, v = .ref I ∧ s₀.heap.get? I = none ∧ ItOk G c tg O h' I ds) s (.ok (upI a (b - a).toNat)) Q E) : wpAny (model G.prog G.w) c.A (pyIter (.ref r)) Q E s := by
  have hsm : Builtin.Range.small a b 1 = true := small_one (by omega) (by omega) (by omega) (by omega)
  have W : Walks G.prog G.w c.A s.heap.objs.size [s.heap.objs.size] [s.heap.objs.size] (upI a (b - a).toNat).length (fun i v => ∃ t, v = .int (a + (i : Int)) t) (fun i h => IsRangeIter h s.heap.objs.size (a + (i : Nat) * 1) (((b - a).toNat : Int) - (i : Nat)) 1) := by
    rw [upI_len]; exact LCg.range_walks co.hh a _
  refine wpAny_pyIter_range hr hsm (C.ok _ rfl _ _ (.push _ _) ⟨_, rfl, none_ext k₁ (none_at _), ⟨_, _, _, W, ?_, fun b hb => .inl (List.mem_singleton.mp hb), fun i v hi hP => ?_, fun i v s Q E _ q => by rw [htg]; exact wpAny_pure q, fun i h' st => ⟨_, st⟩⟩⟩)
  · show IsRangeIter _ _ _ _ _
    rw [range_size1]
    simpa using Heap.get?_push_size _ rfl
  · obtain ⟨t, rfl⟩ := hP
    rw [upI_len] at hi
    exact ⟨_, upI_get _ i a hi, .int _ _⟩

theorem simI_R (eo : EnvOK env) (ok : G.OK) (co : c.OK G n) {tg : Expr} (htg : ∀ it v, letOwnedTupleGo tg it v = pure ()) {np pos : Pos} {e : Expr} {rest : List Expr} {f : CL} (hs : LSim G c env names (e :: rest) f) (hi : env.kindOf (Str.ofString "range") = some .globalImplicit) (hd : (Str.ofString "range" == ("__debug__" : Str)) = false)
    (he : starEach (e :: rest) env = (false, eval e env) :: starEach rest env) (hp : (backTo pos (starEach rest env)).any (·.1) = false)
    (hc : eval (.Call (.Name (Str.ofString "range") np) (e :: rest) [] pos) env = (do callWith pos (← eval (.Name (Str.ofString "range") np) env) [] (backTo pos (starEach (e :: rest) env)) (backToKw pos (keywordEach [] env)))) :
    ISim G c env names tg (.Call (.Name (Str.ofString "range") np) (e :: rest) [] pos) (sR f) := by
  intro O ρ s p Q E C
  obtain ⟨e1, e2⟩ := ok.blt ("range", .type "range") (by decide)
  obtain ⟨m, F⟩ := p.F
  have st : G.hB.StaysIn s.heap := fun b o q => F.keep b o (co.stays b o q)
  refine Call_ (Name_function_global eo.kind hi (loadGlobal_builtin (by rw [eo.globals]; exact ok.g.keeps st) e1 (by rw [eo.builtins]; exact ok.b.keeps st) e2 ?_) hd) hc
  have hs' := hs O ρ s pos p
  rw [he] at hs' ⊢
  refine how_type _ _ _ _ _ ?_ hp
  refine sp_seq (Rel' := fun h' (v : Value) ds => ∃ I, v = .ref I ∧ s.heap.get? I = none ∧ ItOk G c tg O h' I ds) (T := fun vs Q E s₁ => wpAny (model G.prog G.w) c.A (call (.type "range") vs) (fun x s₁ => wpAny (model G.prog G.w) c.A (pyIter x) Q E s₁) E s₁) hs' (fun ds vs s₁ _ k₁ r => ?_) Q E C
  clear C
  intro Q E C
  unfold rangeD at C
  split at C
  · rename_i b _
    split at C
    · rename_i q
      have q' := Nat.le_of_ble_eq_true q
      cases r with
      | cons a r => cases r; cases a with
                  | int _ t =>
                    refine PySem.call_range_1 ?_
                    have kx : Ext s₁ { s₁ with heap := s₁.heap.push { cls := .type "range", data := .fields #[.int 0 s₁.toks, .int b t, .int 1 (s₁.toks + 1)] }, toks := s₁.toks + 1 + 1 } := (Ext.tok s₁ (s₁.toks + 1 + 1)).trans (.push { s₁ with toks := s₁.toks + 1 + 1 } _)
                    refine range_iter (O := O) (n := n) co htg (k₁.trans kx) (Heap.get?_push_size _ rfl) (by decide) q' ?_
                    rw [Int.sub_zero]
                    exact ⟨fun a e b s' k r => C.ok a e b s' (kx.trans k) r, fun k e x s' u f => C.rz k e x s' (kx.up u) f, C.ns⟩
    · exact absurd rfl C.ns
  · rename_i i j _
    split at C
    · rename_i q
      rw [Bool.and_eq_true] at q
      have q1 := Nat.le_of_ble_eq_true q.1
      have q2 := Nat.le_of_ble_eq_true q.2
      cases r with
      | cons a r => cases r with
        | cons b r => cases r; cases a with
                    | int _ t => cases b with
                    | int _ u =>
                      refine PySem.call_range_2 ?_
                      have kx : Ext s₁ { s₁ with heap := s₁.heap.push { cls := .type "range", data := .fields #[.int i t, .int j u, .int 1 s₁.toks] }, toks := s₁.toks + 1 } := (Ext.tok s₁ (s₁.toks + 1)).trans (.push { s₁ with toks := s₁.toks + 1 } _)
                      refine range_iter (O := O) (n := n) co htg (k₁.trans kx) (Heap.get?_push_size _ rfl) q1 q2 ?_
                      exact ⟨fun a e b s' k r => C.ok a e b s' (kx.trans k) r, fun k e x s' u f => C.rz k e x s' (kx.up u) f, C.ns⟩
    · exact absurd rfl C.ns
  · exact absurd rfl C.ns

theorem guard_pre (p : SPre G c env names Oe O ρ s) (k : Ext s s') {I : Addr} (hI : s.heap.get? I = none) (hex : ∃ o, s'.heap.get? I = some o) (hB : G.hB.get? I = none) :
    SPre G c env names (fun a => Oe a ∨ a = I) (fun a => O a ∨ a = I) ρ s' := by
  have q := p.ext k
  have less : ∀ {v : Value} {d : D}, Rep O s.heap v d → Rep (fun a => O a ∨ a = I) s'.heap v d := fun r => r.imp fun a o e n _ => ⟨k.stays _ _ e, fun z => by
    rcases z with z | z
    · exact n z
    · rw [z, hI] at e; cases e⟩
  have lessA : ∀ {v : List Value} {d : List D}, RepAll O s.heap v d → RepAll (fun a => O a ∨ a = I) s'.heap v d := fun r => r.imp fun a o e n _ => ⟨k.stays _ _ e, fun z => by
    rcases z with z | z
    · exact n z
    · rw [z, hI] at e; cases e⟩
  obtain ⟨m, F⟩ := p.p.F
  have hL : c.L ≠ I := fun z => by obtain ⟨o, _, _, e, _⟩ := F.ns; rw [z, hI] at e; cases e
  refine ⟨⟨q.p.F, fun a z => ?_, fun a z => ?_, fun i x d h1 h2 => ?_⟩, fun a z => z.imp (p.sub a) id, fun a z nz => ?_, ⟨.inl p.oL.1, fun z => ?_⟩, fun x a e => ?_, fun i x l a h1 h2 va z => ?_, q.inj⟩
  · rcases z with z | z
    · exact p.p.oB a z
    · rw [z]; exact hB
  · rcases z with z | z
    · exact q.p.oe a z
    · rw [z]; exact hex
  · have v0 := p.p.V i x d h1 h2
    cases d with
    | no => trivial
    | own l => obtain ⟨a, vs', k', va', o, g, r⟩ := v0; exact ⟨a, vs', k', va'.stays k.stays, .inl o, k.stays _ _ g, lessA r⟩
    | _ => obtain ⟨v, a, r⟩ := v0; exact ⟨v, a.stays k.stays, less r⟩
  · rcases z with z | z
    · exact p.oh a z fun y => nz (.inl y)
    · exact absurd (.inr z) nz
  · rcases z with z | z
    · exact p.oL.2 z
    · exact hL z
  · obtain ⟨h1, h2, h3⟩ := q.oC x a e
    refine ⟨.inl h1, fun z => ?_, h3⟩
    rcases z with z | z
    · exact h2 z
    · obtain ⟨_, _, v, o, e1, _⟩ := p.oC x a e
      rw [z, hI] at e1; cases e1
  · rcases z with z | z
    · exact q.own i x l a h1 h2 va z
    · obtain ⟨a', vs', k', va', o, g, r⟩ := p.p.V i x _ h1 h2
      have := VarAt.fun va (va'.stays k.stays); cases this
      rw [z, hI] at g; cases g
theorem guard_off {I : Addr} (p : SPre G c env names (fun a => Oe a ∨ a = I) O ρ s) (hI : c.h₀.get? I = none) : SPre G c env names Oe O ρ s where
  p := p.p
  sub := fun a z => p.sub a (.inl z)
  oh := fun a z nz => by
    by_cases q : a = I
    · rw [q]; exact hI
    · exact p.oh a z fun y => y.elim nz q
  oL := ⟨p.oL.1, fun z => p.oL.2 (.inl z)⟩
  oC := fun x a e => let ⟨h1, h2, h3⟩ := p.oC x a e; ⟨h1, fun z => h2 (.inl z), h3⟩
  own := fun i x l a h1 h2 h3 z => p.own i x l a h1 h2 h3 (.inl z)
  inj := p.inj
/-- the iterator moves on: nothing else that is read changes -/
theorem it_pre {I : Addr} (fr : Frm c env names) (nI : ¬ Oe I) (hI : c.h₀.get? I = none) (p : SPre G c env names (fun a => Oe a ∨ a = I) O ρ s) (eq : s' = { s with heap := s'.heap, toks := s'.toks }) (hk : ∀ b o, b ∉ [I] → s.heap.get? b = some o → s'.heap.get? b = some o) (hex : ∃ o, s'.heap.get? I = some o) :
    Kp Oe O s s' O ∧ SPre G c env names (fun a => Oe a ∨ a = I) O ρ s' := by
  have oI : O I := p.sub I (.inr rfl)
  have hk' : ∀ b o, b ≠ I → s.heap.get? b = some o → s'.heap.get? b = some o := fun b o h e => hk b o (by simpa using h) e
  have rep : ∀ {v : Value} {d : D}, Rep O s.heap v d → Rep O s'.heap v d := fun r => r.imp fun a o e n _ => ⟨hk' _ _ (fun q => n (q ▸ oI)) e, n⟩
  have repA : ∀ {v : List Value} {d : List D}, RepAll O s.heap v d → RepAll O s'.heap v d := fun r => r.imp fun a o e n _ => ⟨hk' _ _ (fun q => n (q ▸ oI)) e, n⟩
  have hL : c.L ≠ I := fun q => p.oL.2 (.inr q)
  have hC : ∀ {x a}, env.cells.lookup x = some a → a ≠ I := fun {x a} e q => (p.oC x a e).2.1 (.inr q)
  have up : ∀ {x v}, VarAt env s.heap x v → VarAt env s'.heap x v := fun {x v} va => by
    rcases va with ⟨k, m, ⟨o, es, ep, e1, r⟩, e⟩ | ⟨k, a, e, o, e1, e2⟩ | ⟨k, a, e, o, e1, e2⟩
    · exact .inl ⟨k, m, ⟨o, es, ep, hk' _ _ (fr.hL ▸ hL) e1, r⟩, e⟩
    · exact .inr (.inl ⟨k, a, e, o, hk' _ _ (hC e) e1, e2⟩)
    · exact .inr (.inr ⟨k, a, e, o, hk' _ _ (hC e) e1, e2⟩)
  have ownat : ∀ {j : Nat} {y : Str} {l : List D}, names[j]? = some y → ρ[j]? = some (.own l) → ∃ a vs k, VarAt env s.heap y (.ref a) ∧ O a ∧ s.heap.get? a = some { cls := .type "list", data := .seq vs k } ∧ RepAll O s.heap vs.toList l := fun h1 h2 => p.p.V _ _ _ h1 h2
  obtain ⟨m, F⟩ := p.p.F
  refine ⟨⟨eq, fun b o h e => hk' b o (fun q => by
    rcases h with h | h
    · exact h (q ▸ oI)
    · exact nI (q ▸ h)) e, fun _ h => .inl h⟩, ⟨⟨⟨m, ?_, fun b o e => hk' b o (fun q => by rw [q, hI] at e; cases e) (F.keep b o e), F.above⟩, p.p.oB, fun a z => ?_, fun i x d h1 h2 => ?_⟩, p.sub, p.oh, p.oL, fun x a e => ?_, fun i x l a h1 h2 va => ?_, fun i j x y l l' a h1 h2 h3 h4 va vb => ?_⟩⟩
  · obtain ⟨o, es, ep, e1, r⟩ := F.ns
    exact ⟨o, es, ep, hk' _ _ hL e1, r⟩
  · by_cases q : a = I
    · rw [q]; exact hex
    · obtain ⟨o, e⟩ := p.p.oe a z
      exact ⟨o, hk' _ _ q e⟩
  · have v0 := p.p.V i x d h1 h2
    cases d with
    | no => trivial
    | own l =>
      obtain ⟨a, vs', k', va', o, g, r⟩ := v0
      exact ⟨a, vs', k', up va', o, hk' _ _ (fun q => p.own i x l a h1 h2 va' (.inr q)) g, repA r⟩
    | _ => obtain ⟨v, a, r⟩ := v0; exact ⟨v, up a, rep r⟩
  · obtain ⟨h1, h2, v, o, e1, e2⟩ := p.oC x a e
    exact ⟨h1, h2, v, o, hk' _ _ (hC e) e1, e2⟩
  · obtain ⟨a', _, _, va', _⟩ := ownat h1 h2
    have := VarAt.fun va (up va'); cases this
    exact p.own i x l _ h1 h2 va'
  · obtain ⟨a', _, _, va', _⟩ := ownat h1 h3
    obtain ⟨b', _, _, vb', _⟩ := ownat h2 h4
    have e1 := VarAt.fun va (up va'); cases e1
    have e2 := VarAt.fun vb (up vb'); cases e2
    exact p.inj i j x y l l' _ h1 h2 h3 h4 va' vb'

theorem Kp.weak {I : Addr} {O' : Addr → Prop} (k : Kp (fun a => Oe a ∨ a = I) O s s' O') : Kp Oe O s s' O' := ⟨k.eq, fun b o h e => k.keep b o (h.imp id .inl) e, k.new⟩
theorem it_done {I : Addr} (fr : Frm c env names) (nI : ¬ Oe I) (hI : c.h₀.get? I = none) (p : SPre G c env names (fun a => Oe a ∨ a = I) O ρ s) (eq : s' = { s with heap := s'.heap, toks := s'.toks }) (hk : ∀ b o, b ∉ [I] → s.heap.get? b = some o → s'.heap.get? b = some o) :
    Kp Oe O s s' (fun b => O b ∧ b ≠ I) ∧ SPre G c env names Oe (fun b => O b ∧ b ≠ I) ρ s' := by
  have oI : O I := p.sub I (.inr rfl)
  have hk' : ∀ b o, b ≠ I → s.heap.get? b = some o → s'.heap.get? b = some o := fun b o h e => hk b o (by simpa using h) e
  have rep : ∀ {v : Value} {d : D}, Rep O s.heap v d → Rep (fun b => O b ∧ b ≠ I) s'.heap v d := fun r => r.imp fun a o e n _ => ⟨hk' _ _ (fun q => n (q ▸ oI)) e, fun z => n z.1⟩
  have repA : ∀ {v : List Value} {d : List D}, RepAll O s.heap v d → RepAll (fun b => O b ∧ b ≠ I) s'.heap v d := fun r => r.imp fun a o e n _ => ⟨hk' _ _ (fun q => n (q ▸ oI)) e, fun z => n z.1⟩
  have hL : c.L ≠ I := fun q => p.oL.2 (.inr q)
  have hC : ∀ {x a}, env.cells.lookup x = some a → a ≠ I := fun {x a} e q => (p.oC x a e).2.1 (.inr q)
  have up : ∀ {x v}, VarAt env s.heap x v → VarAt env s'.heap x v := fun {x v} va => by
    rcases va with ⟨k, m, ⟨o, es, ep, e1, r⟩, e⟩ | ⟨k, a, e, o, e1, e2⟩ | ⟨k, a, e, o, e1, e2⟩
    · exact .inl ⟨k, m, ⟨o, es, ep, hk' _ _ (fr.hL ▸ hL) e1, r⟩, e⟩
    · exact .inr (.inl ⟨k, a, e, o, hk' _ _ (hC e) e1, e2⟩)
    · exact .inr (.inr ⟨k, a, e, o, hk' _ _ (hC e) e1, e2⟩)
  have ownat : ∀ {j : Nat} {y : Str} {l : List D}, names[j]? = some y → ρ[j]? = some (.own l) → ∃ a vs k, VarAt env s.heap y (.ref a) ∧ O a ∧ s.heap.get? a = some { cls := .type "list", data := .seq vs k } ∧ RepAll O s.heap vs.toList l := fun h1 h2 => p.p.V _ _ _ h1 h2
  obtain ⟨m, F⟩ := p.p.F
  refine ⟨⟨eq, fun b o h e => hk' b o (fun q => by
    rcases h with h | h
    · exact h (q ▸ oI)
    · exact nI (q ▸ h)) e, fun _ h => .inl h.1⟩, ⟨⟨⟨m, ?_, fun b o e => hk' b o (fun q => by rw [q, hI] at e; cases e) (F.keep b o e), F.above⟩, fun a z => p.p.oB a z.1, fun a z => ?_, fun i x d h1 h2 => ?_⟩, fun a z => ⟨p.sub a (.inl z), fun q => nI (q ▸ z)⟩, fun a z nz => p.oh a z.1 fun y => y.elim nz z.2, ⟨⟨p.oL.1, hL⟩, fun z => p.oL.2 (.inl z)⟩, fun x a e => ?_, fun i x l a h1 h2 va z => ?_, fun i j x y l l' a h1 h2 h3 h4 va vb => ?_⟩⟩
  · obtain ⟨o, es, ep, e1, r⟩ := F.ns
    exact ⟨o, es, ep, hk' _ _ hL e1, r⟩
  · obtain ⟨o, e⟩ := p.p.oe a z.1
    exact ⟨o, hk' _ _ z.2 e⟩
  · have v0 := p.p.V i x d h1 h2
    cases d with
    | no => trivial
    | own l =>
      obtain ⟨a, vs', k', va', o, g, r⟩ := v0
      have ne : a ≠ I := fun q => p.own i x l a h1 h2 va' (.inr q)
      exact ⟨a, vs', k', up va', ⟨o, ne⟩, hk' _ _ ne g, repA r⟩
    | _ => obtain ⟨v, a, r⟩ := v0; exact ⟨v, up a, rep r⟩
  · obtain ⟨h1, h2, v, o, e1, e2⟩ := p.oC x a e
    exact ⟨⟨h1, hC e⟩, fun z => h2 (.inl z), v, o, hk' _ _ (hC e) e1, e2⟩
  · obtain ⟨a', _, _, va', _⟩ := ownat h1 h2
    have := VarAt.fun va (up va'); cases this
    exact p.own i x l _ h1 h2 va' (.inl z)
  · obtain ⟨a', _, _, va', _⟩ := ownat h1 h3
    obtain ⟨b', _, _, vb', _⟩ := ownat h2 h4
    have e1 := VarAt.fun va (up va'); cases e1
    have e2 := VarAt.fun vb (up vb'); cases e2
    exact p.inj i j x y l l' _ h1 h2 h3 h4 va' vb'

theorem sim_kWh {t : Expr} {body : List Stmt} {pos : Pos} {ft : CB} {b : B} (f : Nat) (ht : TSim G c env names t ft) (hb : BSim G c env names body b) : SSim G c env names (.While t body [] pos) (kWh f ft b) := by
  intro Oe O ρ s p Q E C
  refine wpAny_While (codeAny_whileLoop (fun k s' => ∃ ρ' O', Kp Oe O s s' O' ∧ SPre G c env names Oe O' ρ' s' ∧ whD ft b k ρ' = kWh f ft b ρ) (fun k s' hI => ?_) f ⟨ρ, O, .ofExt (.refl _), p, rfl⟩)
  obtain ⟨ρ', O', kp, p', e⟩ := hI
  rw [← e] at C
  cases k with
  | zero => exact absurd rfl C.ns
  | succ k =>
    rw [whD] at C
    refine ht O' ρ' s' p'.p _ _ ⟨fun tb et b' s₂ kx eb => ?_, fun k' et e' s₂ u fl => ?_, fun et => ?_⟩
    · subst eb
      rw [et] at C
      have kp₂ := kp.trans (Kp.ofExt kx)
      have p₂ := p'.ext kx
      cases b' with
      | false => exact wpAny_execs_nil (C.nx _ rfl _ _ kp₂ p₂)
      | true =>
        refine hb Oe O' ρ' s₂ p₂ _ _ ⟨fun ρ'' eb O'' s₃ kp₃ p₃ => ?_, fun d eb r s₃ eq F rp => ?_, fun k' eb e' s₃ _ _ _ => ?_, fun eb => ?_⟩
        · refine ⟨k, Nat.lt_succ_self _, ρ'', O'', kp₂.trans kp₃, p₃, ?_⟩
          rw [← e, whD, et, eb]
        · rw [eb] at C; exact C.rt d rfl r s₃ (by rw [eq, kp₂.eq]) F rp
        · rw [eb] at C; exact absurd rfl C.ns
        · rw [eb] at C; exact absurd rfl C.ns
    · rw [et] at C; exact absurd rfl C.ns
    · rw [et] at C; exact absurd rfl C.ns

theorem sim_kFo (co : c.OK G n) (fr : Frm c env names) {i : Nat} {x : Str} {iter : Expr} {body : List Stmt} {xp pos : Pos} {src : CL} {b : B} (hx : names[i]? = some x) (hk : env.kindOf x = some .local ∨ (env.kindOf x = some .cell ∧ (env.cells.lookup x).isSome = true))
    (hi : ISim G c env names (.Name x xp) iter src) (hb : BSim G c env names body b) (hs : ∀ x, foldedSetIterable iter env x = pure x) : SSim G c env names (.For (.Name x xp) iter body [] pos) (kFo i src b) := by
  intro Oe O ρ s p Q E C
  refine wpAny_For (hi O ρ s p.p _ _ ⟨fun ds e v s₂ kx r => ?_, fun k e e' s₂ u fl => ?_, fun e => ?_⟩) hs
  · obtain ⟨I, rfl, hIs, ⟨fp, P, St, W, hst, hfp, hP, _, hIo⟩⟩ := r
    unfold kFo at C
    rw [e] at C
    change SConts G c env names Oe O s (foD i b ds ρ) Q E at C
    obtain ⟨m, F⟩ := p.p.F
    have hI0 : c.h₀.get? I = none := by
      cases q : c.h₀.get? I with
      | none => rfl
      | some o => have := F.keep _ _ q; rw [hIs] at this; cases this
    have hIB : G.hB.get? I = none := by
      cases q : G.hB.get? I with
      | none => rfl
      | some o => have := co.stays _ _ q; rw [hI0] at this; cases this
    have nOe : ¬ Oe I := fun z => by obtain ⟨o, q⟩ := p.p.oe I (p.sub I z); rw [hIs] at q; cases q
    have p₂ := guard_pre p kx hIs (hIo _ _ hst) hIB
    have old : ∀ b, b ≠ I → ¬ O b → ¬ (O b ∨ b = I) := fun b h1 h2 h => h.elim h2 h1
    refine codeAny_forLoop (fun k s' => ∃ j ρ' O', k = ds.length + 1 - j ∧ j ≤ ds.length ∧ Kp Oe (fun a => O a ∨ a = I) s₂ s' O' ∧ SPre G c env names (fun a => Oe a ∨ a = I) O' ρ' s' ∧ St j s'.heap ∧ foD i b (ds.drop j) ρ' = foD i b ds ρ) (fun k s' hI => ?_) (ds.length + 1)
      ⟨0, ρ, _, rfl, Nat.zero_le _, .ofExt (.refl _), p₂, hst, by simp⟩
    obtain ⟨j, ρ', O', rfl, hj, kp, p', st, eD⟩ := hI
    rw [← eD] at C
    have fromTo : ∀ {s₃ : Shared} {O'' : Addr → Prop}, Kp Oe (fun a => O a ∨ a = I) s₂ s₃ O'' → Kp Oe O s s₃ O'' := fun {s₃ O''} q => by
      refine ⟨by rw [q.eq, kx.eq], fun b o h e => q.keep b o ?_ (kx.stays _ _ e), fun b h => ?_⟩
      · rcases h with h | h
        · exact .inl (old b (fun z => by rw [z, hIs] at e; cases e) h)
        · exact .inr h
      · rcases q.new b h with (z | z) | z
        · exact .inl z
        · rw [z]; exact .inr hIs
        · exact .inr (none_ext kx z)
    by_cases hlt : j < ds.length
    · refine W.item j _ _ _ hlt st fun v h₁ tk hPv st₁ hk₁ => ?_
      obtain ⟨d, hd, rv⟩ := hP j v hlt hPv
      obtain ⟨kp₁, p₁⟩ := it_pre (s' := { s' with heap := h₁, toks := tk }) fr nOe hI0 p' rfl hk₁ (hIo _ _ st₁)
      have kpA := kp.trans kp₁
      have rv' : Rep O' h₁ v d := rep_kp (s' := { s' with heap := h₁, toks := tk }) kpA rv
      have hdr : ds.drop j = d :: ds.drop (j + 1) := by
        rw [List.drop_eq_getElem_cons hlt]
        congr 1
        rw [List.getElem?_eq_getElem hlt] at hd
        exact Option.some.inj hd
      rw [hdr, foD] at C
      refine wpAny_assign_Name (st_store p₁ fr hx hk (.inl rv') fun s₃ kp₃ p₃ => ?_)
      refine hb _ O' _ s₃ p₃ _ _ ⟨fun ρ'' eb O'' s₄ kp₄ p₄ => ?_, fun d' eb r s₄ eq F' rp => ?_, fun k' eb e' s₄ _ _ _ => ?_, fun eb => ?_⟩
      · refine ⟨_, ?_, j + 1, ρ'', O'', rfl, hlt, ?_, p₄, ?_, ?_⟩
        · omega
        · exact kpA.trans (kp₃.weak.trans kp₄.weak)
        · refine W.frame _ _ _ st₁ fun b hb o e => kp₄.keep b o ?_ (kp₃.keep b o ?_ e)
          all_goals (
            by_cases hbI : b = I
            · exact .inr (.inr hbI)
            · rcases hfp b hb with q | ⟨nb, o', e'⟩
              · exact absurd q hbI
              · left
                intro z
                rcases kpA.new b z with z | z
                · exact z.elim nb hbI
                · rw [z] at e'; cases e')
        · rw [← eD, hdr, foD, eb]
      · rw [eb] at C; exact C.rt d' rfl r s₄ (by rw [eq, kp₃.eq, kp₁.eq, (fromTo kp).eq]) F' (rp.less fun _ z => .inl z)
      · rw [eb] at C; exact absurd rfl C.ns
      · rw [eb] at C; exact absurd rfl C.ns
    · have hjn : j = ds.length := by omega
      subst hjn
      refine W.done _ _ _ st fun h₁ tk hk₁ => ?_
      rw [List.drop_length, foD] at C
      obtain ⟨kp₁, p₁⟩ := it_done (s' := { s' with heap := h₁, toks := tk }) fr nOe hI0 p' rfl hk₁
      exact wpAny_execs_nil (C.nx _ rfl _ _ (fromTo (kp.trans kp₁)) p₁)
  · unfold kFo at C; rw [e] at C
    obtain ⟨m, F⟩ := p.p.F
    exact C.rz k rfl e' s₂ u.eq ((Heap.UpToSlots.of_keeps F.keep).trans u.up) fl
  · unfold kFo at C; rw [e] at C; exact absurd rfl C.ns
end
end Mine
end
section
open PySem PySem.W PyProof.Rows PySem.Calls PySem.Spec
namespace Mine

noncomputable def compD (g : C) (κ : List D) : List (List D) → R (List D)
  | [] => .ok []
  | row :: r => match g (row ++ κ) with
    | .ok d => match compD g κ r with
      | .ok l => .ok (d :: l)
      | _ => .st
    | _ => .st
noncomputable def pick (ρ : List D) : List Nat → List D
  | [] => []
  | i :: r => nth ρ i :: pick ρ r
noncomputable def ones : List D → List (List D)
  | [] => []
  | d :: r => [d] :: ones r
noncomputable def twos : List D → R (List (List D))
  | [] => .ok []
  | d :: r => match pair? d with
    | .ok (a, b) => match twos r with
      | .ok l => .ok ([a, b] :: l)
      | _ => .st
    | _ => .st
noncomputable def zips : List D → List D → List (List D)
  | a :: r, b :: q => [a, b] :: zips r q
  | _, _ => []
noncomputable abbrev CR := List D → R (List (List D))
noncomputable def rOne (f : CL) : CR := fun ρ => (f ρ).bind fun ds => .ok (ones ds)
noncomputable def rTwo (f : CL) : CR := fun ρ => (f ρ).bind twos
noncomputable def zipD : List D → R (List (List D))
  | [.lst a, .lst b] => if (shortL a && shortL b) = true then .ok (zips a b) else .st
  | _ => .st
noncomputable def rZip (f : CL) : CR := fun ρ => (f ρ).bind zipD
noncomputable def compR (g : C) (κ : List D) (rows : List (List D)) : R D := (compD g κ rows).bind mkL
noncomputable def cComp (g : C) (cap : List Nat) (src : CR) : C := fun ρ => match src ρ with
  | .ok rows => compR g (pick ρ cap) rows
  | _ => .st

noncomputable def RowAt (O : Addr → Prop) (h : Heap) (m : Str → Option Value) (xs : List Str) (row : List D) : Prop :=
  row.length = xs.length ∧ ∀ (k : Nat) (x : Str) (d : D), xs[k]? = some x → row[k]? = some d → ∃ v, m x = some v ∧ Rep O h v d
structure CIt (G : Gl) (c : Act) (env : Env) (scope : Scope) (cl : List (Str × Addr)) (tg : Expr) (xs : List Str) (O : Addr → Prop) (s s₂ : Shared) (I : Addr) (rows : List (List D)) (fp wr : Addr → Prop) (T : Nat → Heap → Prop) : Prop where
  init : T 0 s₂.heap
  wrn : ∀ b, wr b → s.heap.get? b = none
  fpe : ∀ b, fp b ∨ wr b → ∃ o, s₂.heap.get? b = some o
  keep : ∀ b o, ¬ wr b → s.heap.get? b = some o → s₂.heap.get? b = some o
  frame : ∀ i h h', T i h → (∀ b, fp b → ∀ o, h.get? b = some o → h'.get? b = some o) → T i h'
  turn : ∀ (O' : Addr → Prop) i row (s' : Shared) (C : Addr) m Q E, (∀ a, O' a → O a ∨ wr a ∨ s₂.heap.get? a = none) → O' C → rows[i]? = some row → T i s'.heap → (∀ b, fp b ∨ wr b → b ≠ C) → s'.heap.Ns C m → (∀ b o, ¬ wr b → s₂.heap.get? b = some o → s'.heap.get? b = some o) →
    (∀ h' tk m', T (i + 1) h' → h'.Ns C m' → RowAt O' h' m' xs row → (∀ b o, ¬ wr b → b ≠ C → s'.heap.get? b = some o → h'.get? b = some o) → Q () { s' with heap := h', toks := tk }) →
    wpAny (model G.prog G.w) c.A (pyNext (.ref I)) (fun r s₁ => match r with
      | none => False
      | some v => wpAny (model G.prog G.w) c.A (letOwnedTupleGo tg (.ref I) v) (fun _ s₃ => wpAny (model G.prog G.w) c.A (assign tg (compEnvC scope cl C env) v) Q E s₃) E s₁) E s'
  wex : ∀ i h, T i h → ∀ b, wr b → ∃ o, h.get? b = some o
  done : ∀ (s' : Shared) (Q : Option Value → Shared → Prop) E, T rows.length s'.heap → (∀ h' tk, (∀ b o, ¬ wr b → s'.heap.get? b = some o → h'.get? b = some o) → Q none { s' with heap := h', toks := tk }) → wpAny (model G.prog G.w) c.A (pyNext (.ref I)) Q E s'
  self : ∀ (s' : Shared) (Q : Value → Shared → Prop) E, T 0 s'.heap → Q (.ref I) s' → wpAny (model G.prog G.w) c.A (pyIter (.ref I)) Q E s'

noncomputable def CSim (G : Gl) (c : Act) (env : Env) (names : List Str) (scope : Scope) (cl : List (Str × Addr)) (tg iter : Expr) (xs : List Str) (src : CR) : Prop :=
  ∀ O ρ s rows, Pre G c O env names ρ s → src ρ = .ok rows → ∀ (Q : Value → Shared → Prop) E, (∀ I fp wr T s₂, s₂ = { s with heap := s₂.heap, toks := s₂.toks } → CIt G c env scope cl tg xs O s s₂ I rows fp wr T → Q (.ref I) s₂) →
    wpAny (model G.prog G.w) c.A (eval iter env) (fun x s₁ => wpAny (model G.prog G.w) c.A (pyIter x) Q E s₁) E s

noncomputable def CapOk (env : Env) (names : List Str) (scope : Scope) (cl : List (Str × Addr)) : List Str → List Nat → Prop
  | [], [] => True
  | y :: ys, i :: is => (names[i]? = some y ∧ cl.lookup y = env.cells.lookup y ∧ (env.kindOf y = some .cell ∨ env.kindOf y = some .free) ∧ ((relabel scope env).names.lookup y = some .cell ∨ (relabel scope env).names.lookup y = some .free)) ∧ CapOk env names scope cl ys is
  | _, _ => False

section
variable {G : Gl} {c : Act} {env : Env} {names : List Str} {n : Nat} {Oe O : Addr → Prop} {ρ : List D} {s s' : Shared}

theorem VRep.but {env env' : Env} {O O' : Addr → Prop} {h h' : Heap} {x : Str} {d : D} (va : ∀ v, VarAt env h x v → VarAt env' h' x v) (hO : ∀ a, O a → O' a)
    (hk : ∀ a o, h.get? a = some o → h'.get? a = some o ∧ (O' a → O a)) (y : VRep env O h x d) : VRep env' O' h' x d := by
  have r1 : ∀ {v : Value} {d : D}, Rep O h v d → Rep O' h' v d := fun r => r.imp fun a o e n _ => ⟨(hk a o e).1, fun z => n ((hk a o e).2 z)⟩
  have r2 : ∀ {v : List Value} {d : List D}, RepAll O h v d → RepAll O' h' v d := fun r => r.imp fun a o e n _ => ⟨(hk a o e).1, fun z => n ((hk a o e).2 z)⟩
  cases d with
  | no => trivial
  | own l => obtain ⟨a, vs, n, b, o, g, r⟩ := y; exact ⟨a, vs, n, va _ b, hO a o, (hk _ _ g).1, r2 r⟩
  | _ => obtain ⟨v, a, r⟩ := y; exact ⟨v, va _ a, r1 r⟩

theorem cap_vars {scope : Scope} {cl : List (Str × Addr)} {C : Addr} {h h' : Heap} (hk : h.StaysIn h') : ∀ {ys : List Str} {is : List Nat}, CapOk env names scope cl ys is → Vars env names O h ρ →
    ∀ (k : Nat) (y : Str) (d : D), ys[k]? = some y → (pick ρ is)[k]? = some d → VRep env O h y d ∧ ∀ v, VarAt env h y v → VarAt (compEnvC scope cl C env) h' y v
  | [], [], _, _, k, y, d, h1, _ => by simp at h1
  | y :: ys, i :: is, x, V, 0, y', d, h1, h2 => by
    simp only [pick, List.getElem?_cons_zero, Option.some.injEq] at h1 h2; subst h1; subst h2
    obtain ⟨⟨e1, e2, e3, e4⟩, _⟩ := x
    refine ⟨?_, fun v va => ?_⟩
    · rcases nth_get ρ i with q | q
      · rw [q]; trivial
      · exact V i _ _ e1 q
    · have : ∃ a, env.cells.lookup y = some a ∧ h.IsCell a (some v) := by
        rcases va with ⟨q, _⟩ | ⟨q, z⟩ | ⟨q, z⟩
        · rcases e3 with e3 | e3 <;> (rw [e3] at q; cases q)
        · exact z
        · exact z
      obtain ⟨a, e, o, g1, g2⟩ := this
      rcases e4 with e4 | e4
      · exact .inr (.inl ⟨e4, a, by show cl.lookup y = _; rw [e2]; exact e, o, hk _ _ g1, g2⟩)
      · exact .inr (.inr ⟨e4, a, by show cl.lookup y = _; rw [e2]; exact e, o, hk _ _ g1, g2⟩)
  | y :: ys, i :: is, x, V, k + 1, y', d, h1, h2 => by
    simp only [List.getElem?_cons_succ, pick] at h1 h2
    exact cap_vars hk x.2 V k y' d h1 h2
  | [], _ :: _, x, _, _, _, _, _, _ => x.elim
  | _ :: _, [], x, _, _, _, _, _, _ => x.elim

theorem codeAny_compLoop_go {R : Result → Shared → Prop} {A : Around} {elt target iter : Expr} {scope : Scope} {pos : Pos} {it acc : Value} (I : Nat → Shared → Prop)
    (turn : ∀ n s, I n s → wpAny (model G.prog G.w) A (pyNext it) (fun r s₁ => match r with
      | none => R (.ok .next) s₁
      | some v => wpAny (model G.prog G.w) A (letOwnedTupleGo target it v) (fun _ s₁ => wpAny (model G.prog G.w) A (assign target env v) (fun _ s₂ => wpAny (model G.prog G.w) A (eval elt env) (fun x s₃ =>
          wpAny (model G.prog G.w) A (call (.builtin "list.append") [acc, x]) (fun _ s₄ => ∃ m, m < n ∧ I m s₄) (notedBy (model G.prog G.w) A env fun e s' => R (.error e) s') s₃)
          (notedBy (model G.prog G.w) A env fun e s' => R (.error e) s') s₂) (notedBy (model G.prog G.w) A env fun e s' => R (.error e) s') s₁) (notedBy (model G.prog G.w) A env fun e s' => R (.error e) s') s₁) (notedBy (model G.prog G.w) A env fun e s' => R (.error e) s') s)
    (n : Nat) (h : I n s) :
    codeAny (model G.prog G.w) A (.compLoop (.ListComp elt [⟨target, iter, [], 0⟩] scope pos) 0 it acc env) R s := by
  refine codeAny_loop rfl I (fun n s hI => ?_) n h
  show wpAny _ _ ((compTurn (.ListComp elt [⟨target, iter, [], 0⟩] scope pos) 0 it acc env).onRaise (fun x => do noteFrame x env; theTreesLotGoes x)) _ _ s
  refine wpAny_noted ?_
  rw [compTurn_list1]
  refine wpAny_bind (wpAny_standAt (wpAny_bind (wpAny_mono (turn n s hI) (fun r s₁ h₁ => ?_) fun _ _ h' => h')))
  cases r with
  | none => exact wpAny_pure h₁
  | some v =>
    refine wpAny_bind (wpAny_mono h₁ (fun _ s₁ h₁ => ?_) fun _ _ h' => h')
    exact wpAny_bind (wpAny_mono h₁ (fun _ s₂ h₂ => wpAny_bind (wpAny_bind (wpAny_mono h₂ (fun x s₃ h₃ => wpAny_bind (wpAny_mono h₃
      (fun _ s₄ h₄ => wpAny_pure (wpAny_pure ⟨rfl, h₄⟩)) fun _ _ h' => h')) fun _ _ h' => h'))) fun _ _ h' => h')

theorem compD_step {g : C} {κ : List D} {row : List D} {r : List (List D)} {l : List D} (h : compD g κ (row :: r) = .ok l) : ∃ d l', g (row ++ κ) = .ok d ∧ compD g κ r = .ok l' ∧ l = d :: l' := by
  rw [compD] at h
  cases e : g (row ++ κ) with
  | ok d =>
    rw [e] at h
    cases e' : compD g κ r with
    | ok l' => rw [e'] at h; cases h; exact ⟨d, l', rfl, rfl, rfl⟩
    | rz k => rw [e'] at h; cases h
    | st => rw [e'] at h; cases h
  | rz k => rw [e] at h; cases h
  | st => rw [e] at h; cases h
theorem compD_len {g : C} {κ : List D} : ∀ {r : List (List D)} {l : List D}, compD g κ r = .ok l → l.length = r.length
  | [], l, h => by rw [compD] at h; cases h; rfl
  | row :: r, l, h => by
    obtain ⟨d, l', _, h2, rfl⟩ := compD_step h
    rw [List.length_cons, List.length_cons, compD_len h2]

theorem comp_block (co : c.OK G n) (p : Pre G c O env names ρ s) {s₂ : Shared} {elt iter tg : Expr} {xs ys : List Str} {is : List Nat} {scope : Scope} {cl : List (Str × Addr)} {pos : Pos} {I : Addr} {rows : List (List D)} {fp wr : Addr → Prop} {T : Nat → Heap → Prop} {g : C} {l : List D}
    (it : CIt G c env scope cl tg xs O s s₂ I rows fp wr T) (hl : compD g (pick ρ is) rows = .ok l) (hsh : shortL l = true) (hcell : ∀ y ∈ scope.names, y.2 ≠ .cell) (hkind : scope.kind = .function) (hxs : ∀ x ∈ xs, scope.names.lookup x = some .local)
    (hcap : CapOk env names scope cl ys is) (helt : ∀ C, ESim G c (compEnvC scope cl C env) (xs ++ ys) elt g) {RR : Value → Addr → Result → Shared → Prop} {E : Value → Shared → Prop}
    (hRR : ∀ D C h' tk m' vs k, s₂.heap.get? D = none → s₂.heap.get? C = none → D ≠ C → h'.Ns C m' → h'.get? D = some { cls := .type "list", data := .seq vs k } → RepAll (fun a => O a ∨ wr a ∨ a = C ∨ a = D) h' vs.toList l →
      (∀ b o, ¬ wr b → s₂.heap.get? b = some o → h'.get? b = some o) → RR (.ref D) C (.ok .next) { s₂ with heap := h', toks := tk }) :
    wpAny (model G.prog G.w) c.A (newList []) (fun acc s₃ => wpAny (model G.prog G.w) c.A (newFunctionEnv scope env.globals cl [] env.qual none .none (some env)) (fun cenv s₄ =>
      codeAny (model G.prog G.w) c.A (.compStart (.ListComp elt [⟨tg, iter, [], 0⟩] scope pos) 0 (.ref I) acc { cenv with scope := relabel scope env }) (RR acc cenv.locals) s₄) E s₃) E s₂ := by
  refine wpAny_newObj_type (wpAny_newFunctionEnv hcell (by intro y hy; simp at hy) (fun h₁ hns₁ hsb₁ => ?_) hkind)
  dsimp only at hns₁ hsb₁ ⊢
  generalize hH2 : s₂.heap.push { cls := .type "list", dict := none, data := .seq ([] : List Value).toArray } = H2 at hns₁ hsb₁ ⊢
  have hC : H2.objs.size = s₂.heap.objs.size + 1 := by rw [← hH2, Heap.size_push]
  have hDC : s₂.heap.objs.size ≠ H2.objs.size := by rw [hC]; exact Nat.ne_of_lt (Nat.lt_succ_self _)
  have below : ∀ b, b < s₂.heap.objs.size → b ≠ H2.objs.size ∧ b ≠ s₂.heap.objs.size := fun b hb => ⟨by rw [hC]; exact Nat.ne_of_lt (Nat.lt_succ_of_lt hb), Nat.ne_of_lt hb⟩
  have old : ∀ b o, s₂.heap.get? b = some o → h₁.get? b = some o := fun b o e => hsb₁.extBut b o (below b (Heap.lt_size e)).1 (Heap.get?_push_of_some _ (hH2 ▸ Heap.get?_push_of_some _ e))
  have hacc : h₁.get? s₂.heap.objs.size = some (LCg.lst []) := hsb₁.extBut _ _ hDC (Heap.get?_push_of_some _ (hH2 ▸ Heap.get?_push_size _ rfl))
  have fresh : ∀ a, s₂.heap.objs.size ≤ a → s₂.heap.get? a = none := fun a ha => Heap.get?_none_of_le ha
  have nD : s₂.heap.get? s₂.heap.objs.size = none := fresh _ (Nat.le_refl _)
  have nC : s₂.heap.get? H2.objs.size = none := fresh _ (by rw [hC]; exact Nat.le_succ _)
  have init₁ : T 0 h₁ := it.frame _ _ _ it.init fun b _ o e => old b o e
  have fpC : ∀ b, fp b ∨ wr b → b ≠ H2.objs.size ∧ b ≠ s₂.heap.objs.size := fun b z => by obtain ⟨o, e⟩ := it.fpe b z; exact below b (Heap.lt_size e)
  generalize hDd : s₂.heap.objs.size = Dd at *
  generalize hCc : H2.objs.size = Cc at *
  obtain ⟨m₀, F₀⟩ := p.F
  have eOf : ∀ a, O a → ∃ o, s₂.heap.get? a = some o := fun a z => by
    obtain ⟨o, e⟩ := p.oe a z
    exact ⟨o, it.keep a o (fun q => by rw [it.wrn a q] at e; cases e) e⟩
  have nwO : ∀ a, O a → ¬ wr a := fun a z q => by obtain ⟨o, e⟩ := p.oe a z; rw [it.wrn a q] at e; cases e
  have loop : ∀ s₃ : Shared, s₃ = { s₂ with heap := h₁, toks := s₂.toks + ([] : List (Str × Value)).length } →
      codeAny (model G.prog G.w) c.A (.compLoop (.ListComp elt [⟨tg, iter, [], 0⟩] scope pos) 0 (.ref I) (.ref Dd) (compEnvC scope cl Cc env)) (RR (.ref Dd) Cc) s₃ := by
    rintro s₃ rfl
    refine codeAny_compLoop_go
      (fun k s' => ∃ h' tk i zs m' pre post, s' = { s₂ with heap := h', toks := tk } ∧ i ≤ rows.length ∧ k = rows.length + 1 - i ∧ T i h' ∧ h'.Ns Cc m' ∧ h'.get? Dd = some (LCg.lst zs) ∧ RepAll (fun a => O a ∨ wr a ∨ a = Cc ∨ a = Dd) h' zs pre ∧ l = pre ++ post ∧ compD g (pick ρ is) (rows.drop i) = .ok post ∧
        (∀ b o, ¬ wr b → s₂.heap.get? b = some o → h'.get? b = some o)) ?_ (rows.length + 1)
      ⟨h₁, _, 0, [], _, [], l, rfl, Nat.zero_le _, rfl, init₁, hns₁, hacc, .nil, rfl, hl, fun b o _ e => old b o e⟩
    rintro k s' ⟨h', tk, i, zs, m', pre, post, rfl, hi, rfl, hT, hn', hD', hzs, hpp, hpost, hk'⟩
    by_cases hlt : i < rows.length
    · have hrow : rows[i]? = some rows[i] := List.getElem?_eq_getElem hlt
      rw [List.drop_eq_getElem_cons hlt] at hpost
      obtain ⟨d, l', hg, hpost', rfl⟩ := compD_step hpost
      refine wpAny_mono (it.turn (fun a => O a ∨ wr a ∨ a = Cc ∨ a = Dd) i rows[i] _ Cc m' ?Q _ (fun a z => z.imp id fun z => z.imp id fun z => z.elim (fun z => z ▸ nC) fun z => z ▸ nD) (.inr (.inr (.inl rfl))) hrow hT (fun b z => (fpC b z).1) hn' hk' fun h₂ tk₂ m₂ hT₂ hn₂ hr₂ hk₂ => ?main) (fun r s₁ hr => ?conv) fun _ _ e => e
      case conv =>
        cases r with
        | none => exact hr.elim
        | some v => exact hr
      case main =>
        have hk2 : ∀ b o, ¬ wr b → s₂.heap.get? b = some o → h₂.get? b = some o := fun b o nw e => hk₂ b o nw (fun q => by rw [q, nC] at e; cases e) (hk' b o nw e)
        have hk0 : s.heap.StaysIn h₂ := fun b o e => hk2 b o (fun q => by rw [it.wrn b q] at e; cases e) (it.keep b o (fun q => by rw [it.wrn b q] at e; cases e) e)
        have hD₂ : h₂.get? Dd = some (LCg.lst zs) := hk₂ _ _ (fun q => (fpC _ (.inr q)).2 rfl) hDC hD'
        have hzs₂ : RepAll (fun a => O a ∨ wr a ∨ a = Cc ∨ a = Dd) h₂ zs pre := hzs.imp fun a o e nO _ => ⟨hk₂ a o (fun q => nO (.inr (.inl q))) (fun q => nO (.inr (.inr (.inl q)))) e, nO⟩
        have P₂ : Pre G c (fun a => O a ∨ wr a ∨ a = Cc ∨ a = Dd) (compEnvC scope cl Cc env) (xs ++ ys) (rows[i] ++ pick ρ is) { s₂ with heap := h₂, toks := tk₂ } := by
          refine ⟨⟨m₀, F₀.keeps hk0⟩, fun a z => ?_, fun a z => ?_, fun j y e hj he => ?_⟩
          · have : s.heap.get? a = none → G.hB.get? a = none := fun q => by
              cases w : G.hB.get? a with
              | none => rfl
              | some o => have := F₀.keep a o (co.stays a o w); rw [q] at this; cases this
            have u : s₂.heap.get? a = none → G.hB.get? a = none := fun q => this (by
              cases w : s.heap.get? a with
              | none => rfl
              | some o => have := it.keep a o (fun z => by rw [it.wrn a z] at w; cases w) w; rw [q] at this; cases this)
            rcases z with z | z | z | z
            · exact p.oB a z
            · exact this (it.wrn a z)
            · exact u (z ▸ nC)
            · exact u (z ▸ nD)
          · rcases z with z | z | z | z
            · obtain ⟨o, e⟩ := p.oe a z; exact ⟨o, hk0 _ _ e⟩
            · exact it.wex _ _ hT₂ a z
            · rw [z]; obtain ⟨o, _, _, e, _⟩ := hn₂; exact ⟨o, e⟩
            · rw [z]; exact ⟨_, hD₂⟩
          · obtain ⟨hlen, hr⟩ := hr₂
            by_cases hjx : j < xs.length
            · rw [List.getElem?_append_left hjx] at hj
              rw [List.getElem?_append_left (by rw [hlen]; exact hjx)] at he
              obtain ⟨v, hv, r⟩ := hr j y e hj he
              exact VRep.of_rep (v := v) r (.inl ⟨lookup_relabel_local (hxs y (List.mem_of_getElem? hj)), m₂, hn₂, hv⟩)
            · rw [List.getElem?_append_right (by omega)] at hj
              rw [List.getElem?_append_right (by rw [hlen]; omega), hlen] at he
              obtain ⟨v0, up⟩ := cap_vars (C := Cc) hk0 hcap p.V _ y e hj he
              refine v0.but up (fun a z => .inl z) fun a o q => ⟨hk0 a o q, fun z => ?_⟩
              rcases z with z | z | z | z
              · exact z
              · rw [it.wrn a z] at q; cases q
              · have := it.keep a o (fun w => by rw [it.wrn a w] at q; cases q) q
                rw [z, nC] at this; cases this
              · have := it.keep a o (fun w => by rw [it.wrn a w] at q; cases q) q
                rw [z, nD] at this; cases this
        refine helt Cc _ _ _ P₂ _ _ ⟨fun a ha y s₃ kx ry => ?_, fun k hk => (by rw [hg] at hk; cases hk), fun hk => (by rw [hg] at hk; cases hk)⟩
        rw [hg] at ha; cases ha
        have hzl : zs.length ≤ l.length := by
          have := hzs.length
          rw [hpp, List.length_append]; omega
        have hsz : zs.toArray.size ≤ sizeLine := by
          have := Nat.le_of_ble_eq_true hsh
          rw [List.size_toArray, sizeLine_eq]; omega
        refine append_at (kx.stays _ _ hD₂) (fun h₅ hs₅ hD₅ => ?_) hsz
        refine ⟨rows.length + 1 - (i + 1), by omega, h₅, s₃.toks, i + 1, zs ++ [y], m₂, pre ++ [d], l', ?_, hlt, rfl, ?_, ?_, ?_, ?_, ?_, hpost', ?_⟩
        · rw [kx.eq]
        · exact it.frame _ _ _ hT₂ fun b z o e => hs₅.extBut _ _ (fpC b (.inl z)).2 (kx.stays _ _ e)
        · exact (hn₂.keeps kx.stays).sameBut hs₅ (Ne.symm hDC)
        · rw [hD₅, LCg.lst_snoc]
        · have up : ∀ {v : List Value} {e : List D}, RepAll (fun a => O a ∨ wr a ∨ a = Cc ∨ a = Dd) s₃.heap v e → RepAll (fun a => O a ∨ wr a ∨ a = Cc ∨ a = Dd) h₅ v e := fun r => r.imp fun a o e nO _ => ⟨hs₅.extBut a o (fun q => nO (.inr (.inr (.inr q)))) e, nO⟩
          exact up ((hzs₂.stays kx.stays).append (.cons ry .nil))
        · rw [hpp, List.append_assoc]; rfl
        · exact fun b o nw e => hs₅.extBut b o (fun q => by rw [q, nD] at e; cases e) (kx.stays _ _ (hk2 b o nw e))
    · have hin : i = rows.length := by omega
      subst hin
      refine it.done _ _ _ hT fun h₂ tk₂ hk₂ => ?_
      rw [List.drop_length, compD] at hpost
      cases hpost
      rw [List.append_nil] at hpp
      subst hpp
      refine hRR Dd Cc h₂ tk₂ m' zs.toArray zs.length nD nC hDC (hn'.at' fun o e => hk₂ _ _ (fun q => (fpC _ (.inr q)).1 rfl) e) (hk₂ _ _ (fun q => (fpC _ (.inr q)).2 rfl) hD') (hzs.imp fun a o e nO _ => ⟨hk₂ a o (fun q => nO (.inr (.inl q))) e, nO⟩) fun b o nw e => hk₂ b o nw (hk' b o nw e)
  refine codeAny_compStart_list (loop _ rfl) (it.self _ _ _ init₁ (loop _ rfl))
end
end Mine
end
section
open PySem PySem.W PyProof.Rows PySem.Calls PySem.Spec
namespace Mine

section
variable {G : Gl} {c : Act} {env : Env} {names : List Str} {n : Nat} {Oe O : Addr → Prop} {ρ : List D} {s s' : Shared}

theorem ones_len : ∀ ds : List D, (ones ds).length = ds.length
  | [] => rfl
  | _ :: r => by rw [ones, List.length_cons, List.length_cons, ones_len r]
theorem ones_get : ∀ (ds : List D) (i : Nat) (row : List D), (ones ds)[i]? = some row → ∃ d, ds[i]? = some d ∧ row = [d]
  | [], i, row, h => by simp [ones] at h
  | d :: r, 0, row, h => by simp [ones] at h; exact ⟨d, rfl, h.symm⟩
  | d :: r, i + 1, row, h => by simp only [ones, List.getElem?_cons_succ] at h ⊢; exact ones_get r i row h
theorem twos_step {d : D} {r : List D} {l : List (List D)} (h : twos (d :: r) = .ok l) : ∃ a b l', pair? d = .ok (a, b) ∧ twos r = .ok l' ∧ l = [a, b] :: l' := by
  rw [twos] at h
  cases e : pair? d with
  | ok ab =>
    rw [e] at h
    cases e' : twos r with
    | ok l' => rw [e'] at h; cases h; exact ⟨_, _, l', rfl, rfl, rfl⟩
    | rz k => rw [e'] at h; cases h
    | st => rw [e'] at h; cases h
  | rz k => rw [e] at h; cases h
  | st => rw [e] at h; cases h
theorem twos_len : ∀ {ds : List D} {l : List (List D)}, twos ds = .ok l → l.length = ds.length
  | [], l, h => by rw [twos] at h; cases h; rfl
  | d :: r, l, h => by
    obtain ⟨a, b, l', _, h2, rfl⟩ := twos_step h
    rw [List.length_cons, List.length_cons, twos_len h2]
theorem twos_get : ∀ {ds : List D} {l : List (List D)}, twos ds = .ok l → ∀ {i : Nat} {row : List D}, l[i]? = some row → ∃ d a b, ds[i]? = some d ∧ pair? d = .ok (a, b) ∧ row = [a, b]
  | [], l, h, i, row, hr => by rw [twos] at h; cases h; simp at hr
  | d :: r, l, h, 0, row, hr => by
    obtain ⟨a, b, l', h1, h2, rfl⟩ := twos_step h
    simp at hr
    exact ⟨d, a, b, rfl, h1, hr.symm⟩
  | d :: r, l, h, i + 1, row, hr => by
    obtain ⟨a, b, l', h1, h2, rfl⟩ := twos_step h
    simp only [List.getElem?_cons_succ] at hr ⊢
    exact twos_get h2 hr

theorem rOne_ok {f : CL} {rows : List (List D)} (h : rOne f ρ = .ok rows) : ∃ ds, f ρ = .ok ds ∧ rows = ones ds := by
  unfold rOne R.bind at h
  cases e : f ρ with
  | ok ds => rw [e] at h; cases h; exact ⟨ds, rfl, rfl⟩
  | rz k => rw [e] at h; cases h
  | st => rw [e] at h; cases h
theorem rTwo_ok {f : CL} {rows : List (List D)} (h : rTwo f ρ = .ok rows) : ∃ ds, f ρ = .ok ds ∧ twos ds = .ok rows := by
  unfold rTwo R.bind at h
  cases e : f ρ with
  | ok ds => rw [e] at h; exact ⟨ds, rfl, h⟩
  | rz k => rw [e] at h; cases h
  | st => rw [e] at h; cases h

theorem cit_of {tg : Expr} {xs : List Str} {scope : Scope} {cl : List (Str × Addr)} {s₂ : Shared} {I : Addr} {ds : List D} {rows : List (List D)} (kx : Ext s s₂) (hI : s.heap.get? I = none) (hlen : rows.length = ds.length)
    {fp : List Addr} {P : Nat → Value → Prop} {St : Nat → Heap → Prop} (W : Walks G.prog G.w c.A I fp [I] ds.length P St) (hst : St 0 s₂.heap) (hfp : ∀ b ∈ fp, b = I ∨ (¬ O b ∧ ∃ o, s₂.heap.get? b = some o))
    (hlet : ∀ i v s (Q : Unit → Shared → Prop) (E : Value → Shared → Prop), St i s.heap → Q () s → wpAny (model G.prog G.w) c.A (letOwnedTupleGo tg (.ref I) v) Q E s) (hIo : ∀ i h', St i h' → ∃ o, h'.get? I = some o)
    (hP : ∀ i v, i < ds.length → P i v → ∃ d, ds[i]? = some d ∧ Rep (fun a => O a ∨ a = I) s₂.heap v d)
    (hset : ∀ (O' : Addr → Prop) (i : Nat) (d : D) (row : List D) (v : Value) (s' : Shared) (C : Addr) m (Q : Unit → Shared → Prop) E, O' C → s'.heap.Ns C m → ds[i]? = some d → rows[i]? = some row → Rep O' s'.heap v d →
      (∀ h' tk m', h'.Ns C m' → RowAt O' h' m' xs row → (∀ b o, b ≠ C → s'.heap.get? b = some o → h'.get? b = some o) → Q () { s' with heap := h', toks := tk }) → wpAny (model G.prog G.w) c.A (assign tg (compEnvC scope cl C env) v) Q E s') :
    CIt G c env scope cl tg xs O s s₂ I rows (fun b => b ∈ fp) (fun b => b = I) St where
  init := hst
  wrn := fun b z => z ▸ hI
  fpe := fun b z => by
    rcases z with z | z
    · rcases hfp b z with q | ⟨_, q⟩
      · exact q ▸ hIo _ _ hst
      · exact q
    · exact z ▸ hIo _ _ hst
  keep := fun b o _ e => kx.stays b o e
  frame := fun i h h' st k => W.frame i h h' st k
  wex := fun i h st b z => z ▸ hIo i h st
  turn := fun O' i row s' C m Q E hO hC hrow st hne hn hk k => by
    have hi : i < ds.length := by rw [← hlen]; exact (List.getElem?_eq_some_iff.mp hrow).1
    refine W.item i s' _ E hi st fun v h₁ tk hv st₁ hk₁ => ?_
    obtain ⟨d, hd, r⟩ := hP i v hi hv
    have hk₁' : ∀ b o, b ≠ I → s'.heap.get? b = some o → h₁.get? b = some o := fun b o h e => hk₁ b o (by simpa using h) e
    have r' : Rep O' h₁ v d := r.imp fun a o e nO _ => ⟨hk₁' a o (fun q => nO (.inr q)) (hk a o (fun q => nO (.inr q)) e), fun z => by
      rcases hO a z with z | z | z
      · exact nO (.inl z)
      · exact nO (.inr z)
      · rw [z] at e; cases e⟩
    have hCI : C ≠ I := fun q => hne I (.inr rfl) q.symm
    refine hlet _ _ _ _ _ st₁ (hset O' i d row v _ C m Q E hC (hn.at' fun o e => hk₁' C o hCI e) hd hrow r' fun h₃ tk₃ m₃ hn₃ hr₃ hk₃ => ?_)
    exact k h₃ tk₃ m₃ (W.frame _ _ _ st₁ fun b z o e => hk₃ b o (hne b (.inl z)) e) hn₃ hr₃ fun b o nw hbC e => hk₃ b o hbC (hk₁' b o nw e)
  done := fun s' Q E st k => W.done s' Q E (hlen ▸ st) fun h' tk hk => k h' tk fun b o nw e => hk b o (by simpa using nw) e
  self := fun s' Q E st q => W.self 0 s' Q E st q

theorem store_comp {scope : Scope} {cl : List (Str × Addr)} {C : Addr} {m : Str → Option Value} {x : Str} {v : Value} (hkind : scope.kind = .function) (hx : scope.names.lookup x = some .local) (hn : s.heap.Ns C m) {Q : Unit → Shared → Prop} {E : Value → Shared → Prop}
    (h : ∀ h', h'.Ns C (fun y => if y = x then some v else m y) → Heap.SameBut C s.heap h' → Q () { s with heap := h', toks := s.toks + 1 }) : wpAny (model G.prog G.w) c.A (storeName (compEnvC scope cl C env) x v) Q E s :=
  wpAny_storeName_local (env := compEnvC scope cl C env) (lookup_relabel_local hx) hn h (by simp [compEnvC, relabel, hkind])

theorem cs_one {scope : Scope} {cl : List (Str × Addr)} {x : Str} {xp : Pos} {iter : Expr} {f : CL} (hi : ISim G c env names (.Name x xp) iter f) (hkind : scope.kind = .function) (hx : scope.names.lookup x = some .local) : CSim G c env names scope cl (.Name x xp) iter [x] (rOne f) := by
  intro O ρ s rows p hr Q E k
  obtain ⟨ds, hf, rfl⟩ := rOne_ok hr
  refine hi O ρ s p Q E ⟨fun ds' e v s₂ kx r => ?_, fun k' hk => (by rw [hf] at hk; cases hk), fun hk => (by rw [hf] at hk; cases hk)⟩
  rw [hf] at e; cases e
  obtain ⟨I, rfl, hI, fp, P, St, W, hst, hfp, hP, hlet, hIo⟩ := r
  refine k I _ _ St s₂ kx.eq (cit_of kx hI (ones_len ds) W hst hfp hlet hIo hP fun O' i d row v s' C m Q E hC hn hd hrow r kk => ?_)
  obtain ⟨d', hd', rfl⟩ := ones_get _ _ _ hrow
  rw [hd] at hd'; cases hd'
  refine wpAny_assign_Name (store_comp hkind hx hn fun h' hn' hs => kk h' _ _ hn' ⟨rfl, fun j y e hj he => ?_⟩ fun b o hb e => (hs.2 b hb).trans e)
  cases j with
  | zero => simp at hj he; subst hj; subst he; exact ⟨v, by simp, rep_but hC hs r⟩
  | succ j => simp at hj

theorem cs_two (co : c.OK G n) {scope : Scope} {cl : List (Str × Addr)} {x y : Str} {xp yp tp : Pos} {k : Nat} {iter : Expr} {f : CL} (hi : ISim G c env names (.Tuple [.Name x xp, .Name y yp] k tp) iter f) (hkind : scope.kind = .function) (hx : scope.names.lookup x = some .local) (hy : scope.names.lookup y = some .local) (hne : x ≠ y) :
    CSim G c env names scope cl (.Tuple [.Name x xp, .Name y yp] k tp) iter [x, y] (rTwo f) := by
  intro O ρ s rows p hr Q E kq
  obtain ⟨ds, hf, htw⟩ := rTwo_ok hr
  refine hi O ρ s p Q E ⟨fun ds' e v s₂ kx r => ?_, fun k' hk => (by rw [hf] at hk; cases hk), fun hk => (by rw [hf] at hk; cases hk)⟩
  rw [hf] at e; cases e
  obtain ⟨I, rfl, hI, fp, P, St, W, hst, hfp, hP, hlet, hIo⟩ := r
  refine kq I _ _ St s₂ kx.eq (cit_of kx hI (twos_len htw) W hst hfp hlet hIo hP fun O' i d row v s' C m Q E hC hn hd hrow r kk => ?_)
  obtain ⟨d', a, b, hd', hp, rfl⟩ := twos_get htw hrow
  rw [hd] at hd'; cases hd'
  rw [PyProof.Rows.assign_Tuple]
  refine wpAny_bind (wpAny_standAt ?_)
  have he : assignEach [.Name x xp, .Name y yp] (compEnvC scope cl C env) = [(false, assign (.Name x xp) (compEnvC scope cl C env)), (false, assign (.Name y yp) (compEnvC scope cl C env))] := rfl
  rw [he]
  show wpAny _ _ (do assignInOrder [assign (.Name x xp) (compEnvC scope cl C env), assign (.Name y yp) (compEnvC scope cl C env)] (← holding [v] (unpackItems v 2 none))) _ _ _
  refine wpAny_bind (wpAny_holding (sp_pair co.hh r hp fun s₂ xv yv k₂ ra rb => ?_))
  show wpAny _ _ (do holding [yv] (assign (.Name x xp) (compEnvC scope cl C env) xv); holding [] (assign (.Name y yp) (compEnvC scope cl C env) yv); pure ()) _ _ _
  refine wpAny_bind (wpAny_holding (wpAny_assign_Name (store_comp hkind hx (hn.keeps k₂.stays) fun h₃ hn₃ hs₃ => ?_)))
  refine wpAny_bind (wpAny_holding (wpAny_assign_Name (store_comp (s := { s₂ with heap := h₃, toks := s₂.toks + 1 }) hkind hy hn₃ fun h₄ hn₄ hs₄ => ?_)))
  refine wpAny_pure ?_
  have := kk h₄ (s₂.toks + 1 + 1) _ hn₄ ⟨rfl, fun j z e hj he => ?_⟩ fun b o hb e => (hs₄.2 b hb).trans ((hs₃.2 b hb).trans (k₂.stays _ _ e))
  · rw [k₂.eq]; exact this
  · cases j with
    | zero => simp at hj he; subst hj; subst he; exact ⟨xv, by simp [hne], rep_but hC hs₄ (rep_but hC hs₃ ra)⟩
    | succ j => cases j with
      | zero => simp at hj he; subst hj; subst he; exact ⟨yv, by simp, rep_but hC hs₄ (rep_but hC hs₃ rb)⟩
      | succ j => simp at hj

theorem compD_rz {g : C} {κ : List D} {k : Nat} : ∀ rows, compD g κ rows ≠ .rz k
  | [], h => by rw [compD] at h; cases h
  | row :: r, h => by
    rw [compD] at h
    cases e : g (row ++ κ) with
    | ok d =>
      rw [e] at h
      cases e' : compD g κ r with
      | ok l => rw [e'] at h; cases h
      | rz k => exact compD_rz r e'
      | st => rw [e'] at h; cases h
    | rz k => rw [e] at h; cases h
    | st => rw [e] at h; cases h
theorem sim_cComp (co : c.OK G n) {elt iter tg : Expr} {xs ys : List Str} {is : List Nat} {scope : Scope} {cl : List (Str × Addr)} {pos : Pos} {g : C} {src : CR} (hs : ∀ x, foldedSetIterable iter env x = pure x) (hclos : closureFor scope env = pure cl)
    (hnames : ∀ x ∈ scope.names, x.2 = .local → scope.names.lookup x.1 = some .local) (hcell : ∀ y ∈ scope.names, y.2 ≠ .cell) (hkind : scope.kind = .function) (hxs : ∀ x ∈ xs, scope.names.lookup x = some .local)
    (hcap : CapOk env names scope cl ys is) (hi : CSim G c env names scope cl tg iter xs src) (helt : ∀ C, ESim G c (compEnvC scope cl C env) (xs ++ ys) elt g) : ESim G c env names (.ListComp elt [⟨tg, iter, [], 0⟩] scope pos) (cComp g is src) := by
  intro O ρ s p Q E K
  unfold cComp at K
  split at K
  · rename_i rows hrows
    rw [eval_ListComp]
    refine wpAny_comprehension_free (use := none) rfl hs hclos hkind hnames (hi O ρ s rows p hrows _ _ fun I fp wr T s₂ eq it => ?_)
    unfold compR R.bind at K
    cases hl : compD g (pick ρ is) rows with
    | ok l =>
      rw [hl] at K
      change Conts G c (Rep O) s (mkL l) Q E at K
      unfold mkL at K
      split at K
      · rename_i hsh
        refine comp_block (RR := fun acc C => compPost (model G.prog G.w) c.A E none Q acc C) co p it hl hsh hcell hkind hxs hcap helt fun D C h' tk m' vs k nD nC hDC hn hD al hk => ?_
        refine ⟨m', hn, fun h'' hs'' => ?_⟩
        have st : s.heap.StaysIn h'' := fun b o e => by
          have nw : ¬ wr b := fun q => by rw [it.wrn b q] at e; cases e
          have e2 := it.keep b o nw e
          exact (hs''.2 b fun q => by rw [q, nC] at e2; cases e2).trans (hk b o nw e2)
        refine K.ok _ rfl (.ref D) { s₂ with heap := h'', toks := tk } ⟨st, by rw [eq]⟩ (.lst ((hs''.2 D hDC).trans hD) (fun z => ?_) (al.imp fun a o e nO _ => ⟨(hs''.2 a fun q => nO (.inr (.inr (.inl q)))).trans e, fun z => nO (.inl z)⟩))
        obtain ⟨o, e⟩ := p.oe _ z
        have := it.keep D o (fun q => by rw [it.wrn D q] at e; cases e) e
        rw [nD] at this; cases this
      · exact absurd rfl K.ns
    | rz k => exact absurd hl (compD_rz rows)
    | st => rw [hl] at K; exact absurd rfl K.ns
  · exact absurd rfl K.ns

noncomputable def kAsC (i : Nat) (g : C) (cap : List Nat) (src : CR) : B := fun ρ => match src ρ with
  | .ok rows => match compR g (pick ρ cap) rows with
    | .ok d => .nx (setN ρ i d)
    | _ => .st
  | _ => .st
theorem fromTo {I : Addr} {O' : Addr → Prop} {s₂ s₃ : Shared} (kx : Ext s s₂) (hI : s.heap.get? I = none) (q : Kp Oe (fun a => O a ∨ a = I) s₂ s₃ O') : Kp Oe O s s₃ O' := by
  refine ⟨by rw [q.eq, kx.eq], fun b o h e => q.keep b o ?_ (kx.stays _ _ e), fun b h => ?_⟩
  · rcases h with h | h
    · exact .inl fun z => z.elim h fun z => by rw [z, hI] at e; cases e
    · exact .inr h
  · rcases q.new b h with (z | z) | z
    · exact .inl z
    · rw [z]; exact .inr hI
    · exact .inr (none_ext kx z)
theorem none_hB (co : c.OK G n) (p : Pre G c O env names ρ s) {a : Addr} (h : s.heap.get? a = none) : c.h₀.get? a = none ∧ G.hB.get? a = none := by
  obtain ⟨m, F⟩ := p.F
  have h1 : c.h₀.get? a = none := by
    cases e : c.h₀.get? a with
    | none => rfl
    | some o => have := F.keep _ _ e; rw [h] at this; cases this
  refine ⟨h1, ?_⟩
  cases e : G.hB.get? a with
  | none => rfl
  | some o => have := co.stays _ _ e; rw [h1] at this; cases this

theorem sim_kAsC (co : c.OK G n) (fr : Frm c env names) {i : Nat} {x : Str} {px spos : Pos} {elt iter tg : Expr} {xs ys : List Str} {is : List Nat} {scope : Scope} {cl : List (Str × Addr)} {pos : Pos} {g : C} {src : CR} (hx : names[i]? = some x) (hk : env.kindOf x = some .local ∨ (env.kindOf x = some .cell ∧ (env.cells.lookup x).isSome = true))
    (hsw : swapsWith (.ListComp elt [⟨tg, iter, [], 0⟩] scope pos) (some (.Name x px)) spos.line env = pure true) (hs : ∀ x, foldedSetIterable iter env x = pure x) (hclos : closureFor scope env = pure cl)
    (hnames : ∀ x ∈ scope.names, x.2 = .local → scope.names.lookup x.1 = some .local) (hcell : ∀ y ∈ scope.names, y.2 ≠ .cell) (hkind : scope.kind = .function) (hxs : ∀ x ∈ xs, scope.names.lookup x = some .local)
    (hcap : CapOk env names scope cl ys is) (hi : CSim G c env names scope cl tg iter xs src) (helt : ∀ C, ESim G c (compEnvC scope cl C env) (xs ++ ys) elt g) :
    SSim G c env names (.Assign [.Name x px] (.ListComp elt [⟨tg, iter, [], 0⟩] scope pos) spos) (kAsC i g is src) := by
  intro Oe O ρ s p Q E K
  unfold kAsC at K
  split at K
  · rename_i rows hrows
    rw [exec_Assign_Name_used _ _ _ _ hsw]
    refine wpAny_bind (wpAny_standAt (wpAny_bind ?_))
    show wpAny _ c.A (do let _ ← comprehension (.ListComp elt [⟨tg, iter, [], 0⟩] scope pos) scope env _ (newList []) false (eval iter env) (some (assign (.Name x px) env))) _ _ s
    refine wpAny_bind (wpAny_mono (wpAny_comprehension_free (use := some (assign (.Name x px) env)) (Q := fun _ s' => Q .next s') rfl hs hclos hkind hnames (hi O ρ s rows p.p hrows _ _ fun I fp wr T s₂ eq it => ?_)) (fun _ s' hq => wpAny_pure (wpAny_pure hq)) fun _ _ e => e)
    unfold compR R.bind at K
    cases hl : compD g (pick ρ is) rows with
    | ok l =>
      rw [hl] at K
      simp only [mkL] at K
      by_cases hsh : shortL l = true
      · rw [if_pos hsh] at K
        refine comp_block (RR := fun acc C => compPost (model G.prog G.w) c.A E (some (assign (.Name x px) env)) (fun _ s' => Q .next s') acc C) co p.p it hl hsh hcell hkind hxs hcap helt fun D C h' tk m' vs k nD nC hDC hn hD al hk => ?_
        have back : ∀ b, s₂.heap.get? b = none → s.heap.get? b = none := fun b z => by
          cases e : s.heap.get? b with
          | none => rfl
          | some o => have := it.keep b o (fun q => by rw [it.wrn b q] at e; cases e) e; rw [z] at this; cases this
        have st : s.heap.StaysIn h' := fun b o e => by
          have nw : ¬ wr b := fun q => by rw [it.wrn b q] at e; cases e
          exact hk b o nw (it.keep b o nw e)
        have kx : Ext s { s₂ with heap := h', toks := tk } := ⟨st, by rw [eq]⟩
        obtain ⟨hC0, hCB⟩ := none_hB co p.p (back C nC)
        have nOe : ¬ Oe C := fun z => by obtain ⟨o, e⟩ := p.p.oe C (p.sub C z); rw [back C nC] at e; cases e
        have p₁ := guard_pre p kx (back C nC) (by obtain ⟨o, _, _, e, _⟩ := hn; exact ⟨o, e⟩) hCB
        have rD : Rep (fun a => O a ∨ a = C) h' (.ref D) (.lst l) := .lst hD (fun z => z.elim (fun z => by
          obtain ⟨o, e⟩ := p.p.oe _ z
          rw [back D nD] at e; cases e) hDC) (al.less fun a z => z.elim .inl fun z => .inr (.inr (.inl z)))
        show wpAny _ c.A (assign (.Name x px) env (.ref D)) _ _ _
        refine wpAny_assign_Name (st_store p₁ fr hx ‹_› (.inl rD) fun s₃ kp₃ p₃ => ?_)
        refine ⟨m', hn.at' fun o e => kp₃.keep C o (.inr (.inr rfl)) e, fun h'' hs'' => ?_⟩
        obtain ⟨kp₄, p₄⟩ := it_done (s' := { s₃ with heap := h'' }) fr nOe hC0 p₃ rfl fun b o hb e => (hs''.2 b (by simpa using hb)).trans e
        exact K.nx _ rfl _ _ (fromTo kx (back C nC) (kp₃.weak.trans kp₄)) p₄
      · rw [if_neg hsh] at K; exact absurd rfl K.ns
    | rz k => exact absurd hl (compD_rz rows)
    | st => rw [hl] at K; exact absurd rfl K.ns
  · exact absurd rfl K.ns

theorem zips_get : ∀ (a b : List D) (i : Nat) (row : List D), (zips a b)[i]? = some row → ∃ x y, a[i]? = some x ∧ b[i]? = some y ∧ row = [x, y]
  | [], b, i, row, h => by simp [zips] at h
  | _ :: _, [], i, row, h => by simp [zips] at h
  | x :: r, y :: q, 0, row, h => by simp [zips] at h; exact ⟨x, y, rfl, rfl, h.symm⟩
  | x :: r, y :: q, i + 1, row, h => by simp only [zips, List.getElem?_cons_succ] at h ⊢; exact zips_get r q i row h
theorem zips_len : ∀ a b : List D, (zips a b).length = min a.length b.length
  | [], b => by simp [zips]
  | _ :: _, [] => by simp [zips]
  | x :: r, y :: q => by rw [zips, List.length_cons, zips_len r q, List.length_cons, List.length_cons]; omega
end
end Mine
end
section
open PySem PySem.W PyProof.Rows PySem.Calls PySem.Spec
namespace Mine
section
variable {G : Gl} {c : Act} {env : Env} {names : List Str} {n : Nat} {Oe O : Addr → Prop} {ρ : List D} {s s' : Shared}

theorem rZip_ok {f : CL} {rows : List (List D)} (h : rZip f ρ = .ok rows) : ∃ a b, f ρ = .ok [.lst a, .lst b] ∧ rows = zips a b := by
  unfold rZip R.bind at h
  cases e : f ρ with
  | ok ds =>
    rw [e] at h
    change zipD ds = _ at h
    unfold zipD at h
    split at h
    · split at h
      · cases h; exact ⟨_, _, rfl, rfl⟩
      · cases h
    · cases h
  | rz k => rw [e] at h; cases h
  | st => rw [e] at h; cases h

theorem zapart (n a b : Nat) (h1 : a < n) (h2 : b < n) : ZipApart (n + 4) (n + 2) (n + 3) n (n + 1) a b := by constructor <;> exact fun h => (by have h' : @Eq Nat _ _ := h; omega)

theorem cs_zip (eo : EnvOK env) (ok : G.OK) (co : c.OK G n) {scope : Scope} {cl : List (Str × Addr)} {x y : Str} {xp yp tp np pos : Pos} {k : Nat} {e : Expr} {rest : List Expr} {f : CL} (hs : LSim G c env names (e :: rest) f) (hi : env.kindOf (Str.ofString "zip") = some .globalImplicit) (hd : (Str.ofString "zip" == ("__debug__" : Str)) = false)
    (he : starEach (e :: rest) env = (false, eval e env) :: starEach rest env) (hp : (backTo pos (starEach rest env)).any (·.1) = false)
    (hc : eval (.Call (.Name (Str.ofString "zip") np) (e :: rest) [] pos) env = (do callWith pos (← eval (.Name (Str.ofString "zip") np) env) [] (backTo pos (starEach (e :: rest) env)) (backToKw pos (keywordEach [] env))))
    (hkind : scope.kind = .function) (hx : scope.names.lookup x = some .local) (hy : scope.names.lookup y = some .local) (hne : x ≠ y) :
    CSim G c env names scope cl (.Tuple [.Name x xp, .Name y yp] k tp) (.Call (.Name (Str.ofString "zip") np) (e :: rest) [] pos) [x, y] (rZip f) := by
  intro O ρ s rows p hr Q E kq
  obtain ⟨da, db, hf, rfl⟩ := rZip_ok hr
  obtain ⟨e1, e2⟩ := ok.blt ("zip", .type "zip") (by decide)
  obtain ⟨m, F⟩ := p.F
  have st : G.hB.StaysIn s.heap := fun b o q => F.keep b o (co.stays b o q)
  refine Call_ (Name_function_global eo.kind hi (loadGlobal_builtin (by rw [eo.globals]; exact ok.g.keeps st) e1 (by rw [eo.builtins]; exact ok.b.keeps st) e2 ?_) hd) hc
  have hs' := hs O ρ s pos p
  rw [he] at hs' ⊢
  refine how_type _ _ _ _ _ ?_ hp
  refine hs' _ _ ⟨fun ds e vs s₁ k₁ r => ?_, fun k' hk => (by rw [hf] at hk; cases hk), fun hk => (by rw [hf] at hk; cases hk)⟩
  rw [hf] at e; cases e
  cases r with
  | cons ra r => cases r with
    | cons rb r =>
      cases r
      cases ra with
      | @lst l1 vs1 n1 _ g1 o1 a1 =>
      cases rb with
      | @lst l2 vs2 n2 _ g2 o2 a2 =>
      have len1 := a1.length
      have len2 := a2.length
      rw [Array.length_toList] at len1 len2
      refine call_zip_2 (RepAll.isList g1) (RepAll.isList g2) fun h' hz hTI hTO hi1 hi2 hsz hk => ?_
      refine wpAny_pyIter_zip (s := { s₁ with heap := h' }) hz ?_
      have lt1 : (l1 : Nat) < (s₁.heap.objs.size : Nat) := Heap.lt_size g1
      have lt2 : (l2 : Nat) < (s₁.heap.objs.size : Nat) := Heap.lt_size g2
      have apart : ZipApart (s₁.heap.objs.size + 4) (s₁.heap.objs.size + 2) (s₁.heap.objs.size + 3) s₁.heap.objs.size (s₁.heap.objs.size + 1) l1 l2 := zapart _ _ _ lt1 lt2
      have fresh : ∀ b, s₁.heap.objs.size ≤ b → s.heap.get? b = none := fun b z => none_ext k₁ (Heap.get?_none_of_le z)
      generalize hz4 : s₁.heap.objs.size + 4 = z at *
      generalize hz2 : s₁.heap.objs.size + 2 = TI at *
      generalize hz3 : s₁.heap.objs.size + 3 = TO at *
      generalize hz1 : s₁.heap.objs.size + 1 = i2 at *
      generalize hz0 : s₁.heap.objs.size = i1 at *
      have W := WalksT.zip2 (prog := G.prog) (w := G.w) (A := c.A) co.hh z TI TO i1 i2 l1 l2 apart vs1 vs2
      have hn : (zips da db).length = min vs1.size vs2.size := by rw [zips_len, len1, len2]
      refine kq z (fun b => b ∈ [z, TI, TO, i1, i2, l1, l2]) (fun b => b ∈ [z, TO, i1, i2]) _ { s₁ with heap := h' } (by rw [k₁.eq]) ⟨⟨hz, hTI, ⟨_, _, hTO⟩, hi1, hi2, ⟨_, hk _ _ g1, rfl, _, rfl⟩, ⟨_, hk _ _ g2, rfl, _, rfl⟩⟩, fun b hb => ?_, fun b hb => ?_, fun b o _ e => hk b o (k₁.stays _ _ e), fun i h h' => W.frame i h h', ?_, fun i h st b hb => ?_, fun s' Q E st q => W.done s' Q E (hn ▸ st) q, fun s' Q E st q => W.self 0 s' Q E st q⟩
      · refine fresh b ?_
        simp only [List.mem_cons, List.not_mem_nil, or_false] at hb
        rcases hb with rfl | rfl | rfl | rfl <;> (show (_ : Nat) ≤ _; omega)
      · have : b ∈ [z, TI, TO, i1, i2, l1, l2] := hb.elim id (W.sub b)
        simp only [List.mem_cons, List.not_mem_nil, or_false] at this
        rcases this with rfl | rfl | rfl | rfl | rfl | rfl | rfl
        · exact ⟨_, hz⟩
        · exact ⟨_, hTI⟩
        · exact ⟨_, hTO⟩
        · obtain ⟨o, e, _⟩ := hi1; exact ⟨o, e⟩
        · obtain ⟨o, e, _⟩ := hi2; exact ⟨o, e⟩
        · exact ⟨_, hk _ _ g1⟩
        · exact ⟨_, hk _ _ g2⟩
      · intro O' i row s' C m Q E hO hC hrow st hne' hnC hkeep kk
        obtain ⟨u, v, hu, hv, rfl⟩ := zips_get _ _ _ _ hrow
        have hi : i < min vs1.size vs2.size := by rw [← hn]; exact (List.getElem?_eq_some_iff.mp hrow).1
        refine W.item i s' _ E hi st fun Tt vals h₁ tk hv' hle hT hMid hk₁ => ?_
        obtain ⟨xv, yv, hxv, hyv, rfl⟩ := hv'
        refine W.go _ _ _ i Tt _ _ E hMid fun h₂ st₂ hk₂ => ?_
        have nTw := W.apart i Tt h₁ hMid
        have hT₂ : h₂.IsTuple Tt #[xv, yv] := let ⟨o, e, r⟩ := hT; ⟨o, hk₂ _ _ nTw e, r⟩
        have up : ∀ b o, b ∉ [z, TO, i1, i2] → s'.heap.get? b = some o → h₂.get? b = some o := fun b o nb e => hk₂ b o nb (hk₁ b o nb e)
        have lift : ∀ {v : Value} {d : D}, Rep O s₁.heap v d → Rep O' h₂ v d := fun r => r.imp fun a o e nO _ => by
          have lt := Heap.lt_size e
          have nw : a ∉ [z, TO, i1, i2] := fun q => by
            simp only [List.mem_cons, List.not_mem_nil, or_false] at q
            rcases q with rfl | rfl | rfl | rfl <;> (have lt' : (_ : Nat) < _ := lt; omega)
          refine ⟨up a o nw (hkeep a o nw (hk _ _ e)), fun w => ?_⟩
          rcases hO a w with w | w | w
          · exact nO w
          · exact nw w
          · rw [hk _ _ e] at w; cases w
        have ru : Rep O' h₂ xv u := by
          obtain ⟨q, hq, rq⟩ := a1.get hu
          rw [Array.getElem?_toList, hxv] at hq; cases hq
          exact lift rq
        have rv : Rep O' h₂ yv v := by
          obtain ⟨q, hq, rq⟩ := a2.get hv
          rw [Array.getElem?_toList, hyv] at hq; cases hq
          exact lift rq
        have hCw : C ∉ [z, TO, i1, i2] := fun q => hne' C (.inr q) rfl
        have hn₂ : h₂.Ns C m := hnC.at' fun o e => up C o hCw e
        rw [PyProof.Rows.assign_Tuple]
        refine wpAny_bind (wpAny_standAt ?_)
        have he : assignEach [.Name x xp, .Name y yp] (compEnvC scope cl C env) = [(false, assign (.Name x xp) (compEnvC scope cl C env)), (false, assign (.Name y yp) (compEnvC scope cl C env))] := rfl
        rw [he]
        show wpAny _ _ (do assignInOrder [assign (.Name x xp) (compEnvC scope cl C env), assign (.Name y yp) (compEnvC scope cl C env)] (← holding [.ref Tt] (unpackItems (.ref Tt) 2 none))) _ _ _
        refine wpAny_bind (wpAny_holding (unpackItems_tuple (items := #[xv, yv]) co.hh hT₂ fun h₂' he₂ => ?_))
        have k₂ := stays_of_but he₂
        show wpAny _ _ (do holding [yv] (assign (.Name x xp) (compEnvC scope cl C env) xv); holding [] (assign (.Name y yp) (compEnvC scope cl C env) yv); pure ()) _ _ _
        refine wpAny_bind (wpAny_holding (wpAny_assign_Name (store_comp (s := { s' with heap := h₂', toks := tk }) hkind hx (hn₂.keeps k₂) fun h₃ hn₃ hs₃ => ?_)))
        refine wpAny_bind (wpAny_holding (wpAny_assign_Name (store_comp (s := { s' with heap := h₃, toks := tk + 1 }) hkind hy hn₃ fun h₄ hn₄ hs₄ => ?_)))
        refine wpAny_pure ?_
        have keep4 : ∀ b o, b ≠ C → h₂.get? b = some o → h₄.get? b = some o := fun b o hb e => (hs₄.2 b hb).trans ((hs₃.2 b hb).trans (k₂ _ _ e))
        refine kk h₄ (tk + 1 + 1) _ (W.frame _ _ _ st₂ fun b hb o e => keep4 b o (hne' b (.inl hb)) e) hn₄ ⟨rfl, fun j w e hj he => ?_⟩ fun b o nw hb e => keep4 b o hb (up b o nw e)
        cases j with
        | zero => simp at hj he; subst hj; subst he; exact ⟨xv, by simp [hne], rep_but hC hs₄ (rep_but hC hs₃ (ru.stays k₂))⟩
        | succ j => cases j with
          | zero => simp at hj he; subst hj; subst he; exact ⟨yv, by simp, rep_but hC hs₄ (rep_but hC hs₃ (rv.stays k₂))⟩
          | succ j => simp at hj
      · obtain ⟨a1, a2, ⟨_, _, a3⟩, ⟨_, a4, _⟩, ⟨_, a5, _⟩, _⟩ := st
        simp only [List.mem_cons, List.not_mem_nil, or_false] at hb
        rcases hb with rfl | rfl | rfl | rfl
        · exact ⟨_, a1⟩
        · exact ⟨_, a3⟩
        · exact ⟨_, a4⟩
        · exact ⟨_, a5⟩
end
end Mine
end
section
open PySem PySem.W PyProof.Rows PySem.Calls PySem.Spec
namespace Mine

structure FlyOK (G : Gl) : Prop where
  leave : ∀ (env : Env) (outer : List Env) (k : Nat) (e L : Addr) (s : Shared) (A : Around) (Q : Unit → Shared → Prop) (E : Value → Shared → Prop), A.frames = some (env :: outer) → env.frame = some L → G.Fly (env :: outer) k e s.heap →
    (∀ h', G.Fly outer k e h' → s.heap.UpToSlots h' → Q () { s with heap := h' }) → wpAny (model G.prog G.w) A (leaving env (.ref e)) Q E s
noncomputable def DefAt (G : Gl) (f : Fn) (params : Arguments) (body : List Stmt) (scope : Scope) : Prop :=
  ∃ o pm code doc, G.hB.get? (G.fa f) = some o ∧ o.data = .func (docDef (Str.ofString (fnStr f)) params body scope pm code doc) ∧ G.hB.CodeRec code (Str.ofString (fnStr f))

noncomputable def nos : Nat → List D
  | 0 => []
  | n + 1 => .no :: nos n
noncomputable def retR : RS → R D
  | .rt d => .ok d
  | .nx _ => .ok .none
  | .rz k => .rz k
  | .st => .st
noncomputable def fnD (k m : Nat) (b : B) (ds : List D) : R D := if Nat.beq ds.length k = true then retR (b (ds ++ nos m)) else .st

theorem nos_get : ∀ (m i : Nat) (d : D), (nos m)[i]? = some d → d = .no
  | 0, i, d, h => by simp [nos] at h
  | m + 1, 0, d, h => by simp [nos] at h; exact h.symm
  | m + 1, i + 1, d, h => by simp only [nos, List.getElem?_cons_succ] at h; exact nos_get m i d h

theorem bindL_off {kindOf : Str → Option NameKind} {x : Str} : ∀ (l : List (Str × Value)) (m : Str → Option Value), (∀ p ∈ l, p.1 ≠ x) → bindL kindOf l m x = m x
  | [], m, _ => rfl
  | (n, v) :: r, m, h => by
    unfold bindL
    rw [bindL_off r _ fun p hp => h p (List.mem_cons_of_mem _ hp)]
    split
    · exact if_neg (Ne.symm (h _ List.mem_cons_self))
    · rfl
theorem bindC_off {kindOf : Str → Option NameKind} {x : Str} : ∀ (l : List (Str × Value)) (m : Str → Option Value), (∀ p ∈ l, p.1 ≠ x) → bindC kindOf l m x = m x
  | [], m, _ => rfl
  | (n, v) :: r, m, h => by
    unfold bindC
    rw [bindC_off r _ fun p hp => h p (List.mem_cons_of_mem _ hp)]
    split
    · rfl
    · exact if_neg (Ne.symm (h _ List.mem_cons_self))
theorem zip_fst {ps : List Str} {vs : List Value} : ∀ p ∈ ps.zip vs, p.1 ∈ ps := fun p hp => (List.of_mem_zip hp).1
theorem bindL_at {kindOf : Str → Option NameKind} : ∀ (ps : List Str) (vs : List Value) (m : Str → Option Value) (i : Nat) (x : Str) (v : Value), ps.Nodup → ps[i]? = some x → vs[i]? = some v → kindOf x = some .local → bindL kindOf (ps.zip vs) m x = some v
  | [], vs, m, i, x, v, _, h1, _, _ => by simp at h1
  | p :: ps, [], m, i, x, v, _, _, h2, _ => by simp at h2
  | p :: ps, w :: vs, m, 0, x, v, nd, h1, h2, hk => by
    simp only [List.getElem?_cons_zero, Option.some.injEq] at h1 h2
    subst h1; subst h2
    rw [List.zip_cons_cons, bindL, bindL_off]
    · rw [if_pos hk]; simp
    · intro q hq e
      exact (List.nodup_cons.mp nd).1 (e ▸ zip_fst q hq)
  | p :: ps, w :: vs, m, i + 1, x, v, nd, h1, h2, hk => by
    simp only [List.getElem?_cons_succ] at h1 h2
    rw [List.zip_cons_cons, bindL]
    exact bindL_at ps vs _ i x v (List.nodup_cons.mp nd).2 h1 h2 hk
theorem bindC_at {kindOf : Str → Option NameKind} : ∀ (ps : List Str) (vs : List Value) (m : Str → Option Value) (i : Nat) (x : Str) (v : Value), ps.Nodup → ps[i]? = some x → vs[i]? = some v → kindOf x = some .cell → bindC kindOf (ps.zip vs) m x = some v
  | [], vs, m, i, x, v, _, h1, _, _ => by simp at h1
  | p :: ps, [], m, i, x, v, _, _, h2, _ => by simp at h2
  | p :: ps, w :: vs, m, 0, x, v, nd, h1, h2, hk => by
    simp only [List.getElem?_cons_zero, Option.some.injEq] at h1 h2
    subst h1; subst h2
    rw [List.zip_cons_cons, bindC, bindC_off]
    · rw [if_neg (by rw [hk]; decide)]; simp
    · intro q hq e
      exact (List.nodup_cons.mp nd).1 (e ▸ zip_fst q hq)
  | p :: ps, w :: vs, m, i + 1, x, v, nd, h1, h2, hk => by
    simp only [List.getElem?_cons_succ] at h1 h2
    rw [List.zip_cons_cons, bindC]
    exact bindC_at ps vs _ i x v (List.nodup_cons.mp nd).2 h1 h2 hk

theorem apart_inj : ∀ {cs : List (Str × Addr)}, (cs.Pairwise fun x y => x.2 ≠ y.2) → ∀ x y a, cs.lookup x = some a → cs.lookup y = some a → x = y :=
  fun hp x y a h1 h2 => name_of_addr hp (mem_of_lookup h1) (mem_of_lookup h2)

theorem frames_in {h base : Heap} {l : List Env} {L : Addr} {env : Env} {m : Str → Option Value} (hl : h.FunFrames base l) (hk : env.scope.kind = .function) (hf : env.frame = some L) (hn : base.get? L = none) (ns : h.Ns L m) : h.FunFrames base (env :: l) := by
  obtain ⟨o, es, ep, e1, d1, _⟩ := ns
  exact ⟨by rw [hk]; decide, ⟨L, o, hf, hn, e1, fun vs q => by rw [d1] at q; cases q⟩, hl⟩

theorem cellsFrom_is {x : Str} : ∀ (names : List (Str × NameKind)) (n : Nat) (acc : List (Str × Addr)), (names.lookup x = some .cell ∨ (acc.lookup x).isSome = true) → ((cellsFrom n names acc).lookup x).isSome = true
  | [], n, acc, h => h.elim (fun e => by cases e) id
  | (y, k) :: r, n, acc, h => by
    unfold cellsFrom
    cases hk : k == NameKind.cell with
    | true =>
      rw [if_pos rfl]
      refine cellsFrom_is r _ _ ?_
      cases hy : x == y with
      | true => exact .inr (by rw [List.lookup_cons, hy]; rfl)
      | false =>
        refine h.imp (fun e => ?_) fun e => ?_
        · rw [List.lookup_cons, hy] at e; exact e
        · rw [List.lookup_cons, hy]; exact e
    | false =>
      rw [if_neg (by simp)]
      refine cellsFrom_is r _ _ (h.elim (fun e => ?_) .inr)
      cases hy : x == y with
      | true =>
        rw [List.lookup_cons, hy] at e
        have e' : k = .cell := Option.some.inj e
        rw [e'] at hk; cases hk
      | false => rw [List.lookup_cons, hy] at e; exact .inl e
theorem kX {scope : Scope} {y : Str} (e : (scope.names.lookup y == some NameKind.local || scope.names.lookup y == some NameKind.cell) = true) (n : Nat) :
    scope.names.lookup y = some .local ∨ (scope.names.lookup y = some .cell ∧ ((cellsFrom n scope.names []).lookup y).isSome = true) := by
  rcases Bool.or_eq_true_iff.mp e with q | q
  · exact .inl (by simpa using q)
  · have q' : scope.names.lookup y = some .cell := by simpa using q
    exact .inr ⟨q', cellsFrom_is _ _ _ (.inl q')⟩

section
variable {G : Gl} {n : Nat}

theorem spec_of {f : Fn} {params : Arguments} {body : List Stmt} {scope : Scope} {ps locs : List Str} {b : B} (ok : G.OK) (fk : FlyOK G) (hd : DefAt G f params body scope)
    (hco : scope.isCoroutine = false) (hgen : scope.isGenerator = false) (hk : scope.kind = .function)
    (hps : ∀ vs : List Value, vs.length = ps.length → ∀ nm pm code doc, bindArgs (docDef nm params body scope pm code doc) ⟨vs, []⟩ = pure (ps.zip vs))
    (hkind : (ps.all fun y => scope.names.lookup y == some .local || scope.names.lookup y == some .cell) = true) (hnd : (ps ++ locs).Nodup)
    (hbody : ∀ (c : Act) (L a : Addr) (cd : Value), c.fenv = envOfC (Str.ofString (fnStr f)) scope L a cd → c.OK G n → Frm c (envOfC (Str.ofString (fnStr f)) scope L a cd) (ps ++ locs) →
      BSim G c (envOfC (Str.ofString (fnStr f)) scope L a cd) (ps ++ locs) body b) : Spec G (n + 1) f (fnD ps.length locs.length b) := by
  intro c O s vs ds co p r Q E C
  unfold fnD at C
  split at C
  · rename_i hlen
    have hlen := Nat.eq_of_beq_eq_true hlen
    have hvl : vs.length = ps.length := r.length.trans hlen
    obtain ⟨o, pm, code, doc, ho, hdata, hcd⟩ := hd
    obtain ⟨m₀, F₀⟩ := p.F
    have stB : G.hB.StaysIn s.heap := fun b o q => F₀.keep b o (co.stays b o q)
    have hroom : c.A.depth < recursionLimit := Nat.lt_of_le_of_lt (Nat.le_add_right _ _) co.depth
    refine wpAny_call ?_
    have hkinds : ∀ n, ∀ x ∈ ps.zip vs, scope.names.lookup x.1 = some .local ∨ (scope.names.lookup x.1 = some .cell ∧ ((cellsFrom n scope.names []).lookup x.1).isSome = true) :=
      fun n x hx => kX (List.all_eq_true.mp hkind x.1 (zip_fst x hx)) n
    refine codeAny_call_cells (fd := docDef (Str.ofString (fnStr f)) params body scope pm code doc) hroom (stB _ _ ho) hdata (ok.nolimit.keeps stB) (hcd.keeps stB) rfl (hps vs hvl _ _ _ _) rfl (hkinds _) (fun s₁ x => ?_) hco hgen hk
    have e1 : callEnvC (docDef (Str.ofString (fnStr f)) params body scope pm code doc) s.heap.objs.size (G.fa f) = envOfC (Str.ofString (fnStr f)) scope s.heap.objs.size (G.fa f) code := rfl
    rw [e1] at x ⊢
    generalize hL : s.heap.objs.size = L at *
    generalize hEnv : envOfC (Str.ofString (fnStr f)) scope L (G.fa f) code = env at *
    have hEl : env.locals = L := by rw [← hEnv]; rfl
    have hEf : env.frame = some L := by rw [← hEnv]; rfl
    have hEk : env.scope.kind = .function := by rw [← hEnv]; exact hk
    have hEc : env.cells = cellsFrom (L + 1) scope.names [] := by rw [← hEnv]; rfl
    have hKo : ∀ y, env.kindOf y = scope.names.lookup y := fun y => by rw [← hEnv]; rfl
    obtain ⟨h₁, tk, rfl, keep⟩ := x.done
    have nsL : h₁.Ns L _ := hEl ▸ x.toInCall.ns
    have freshL : s.heap.get? L = none := Heap.get?_none_of_le (Nat.le_of_eq hL)
    have noneB : ∀ a, s.heap.get? a = none → G.hB.get? a = none := fun a q => by
      cases w : G.hB.get? a with
      | none => rfl
      | some o => have := stB a o w; rw [q] at this; cases this
    have freshC : ∀ y a, env.cells.lookup y = some a → s.heap.get? a = none := fun y a e => Heap.get?_none_of_le (by rw [hL]; exact Nat.le_of_lt (hEl ▸ x.above y a (mem_of_lookup e)))
    let c' : Act := { A := c.A.deeper env, outer := c.fenv :: c.outer, h₀ := s.heap, L := L, fenv := env }
    have nOf : ∀ a, s.heap.get? a = none → ¬ O a := fun a q z => by obtain ⟨o, e⟩ := p.oe a z; rw [q] at e; cases e
    have co' : c'.OK G n := by
      refine ⟨Around.frames_deeper co.stack, stB, ?_, hEf, hEk, co.hh, ?_, ?_⟩
      · exact frames_in (co.frames.of_keeps fun b o e _ => ⟨o, F₀.keep b o e, rfl⟩) co.hke co.hf (by
          cases w : G.hB.get? c.L with
          | none => rfl
          | some o => exact absurd (Nat.lt_of_lt_of_le (Heap.lt_size (co.stays _ _ w)) F₀.above) (Nat.lt_irrefl _)) F₀.ns
      · show c.A.depth + 1 + n < recursionLimit
        have := co.depth
        omega
      · show c.A.units + 3 + 8 * n + 100 < cLine
        have := co.units
        omega
    have fr' : Frm c' env (ps ++ locs) := ⟨⟨hEk, by rw [← hEnv]; rfl, by rw [← hEnv]; rfl⟩, hEl, hnd, apart_inj x.apart⟩
    have noOwn : ∀ (i : Nat) (l : List D), (ds ++ nos locs.length)[i]? ≠ some (.own l) := fun i l e => by
      by_cases hi : i < ds.length
      · rw [List.getElem?_append_left hi] at e
        obtain ⟨v, _, rv⟩ := r.get e
        cases rv
      · rw [List.getElem?_append_right (by omega)] at e
        cases nos_get _ _ _ e
    have sp : SPre G c' env (ps ++ locs) O (fun a => O a ∨ (s.heap.get? a = none ∧ ∃ o, h₁.get? a = some o)) (ds ++ nos locs.length) { s with heap := h₁, toks := tk } := by
      refine ⟨⟨⟨_, nsL, keep, Nat.le_of_eq hL⟩, fun a z => z.elim (p.oB a) fun z => noneB a z.1, fun a z => z.elim (fun z => let ⟨o, e⟩ := p.oe a z; ⟨o, keep a o e⟩) fun z => z.2, fun i y d hy hd => ?_⟩, fun a z => .inl z, fun a z nz => z.elim (fun z => absurd z nz) fun z => z.1, ⟨.inr ⟨freshL, ?_⟩, nOf L freshL⟩, fun y a e => ?_, fun i y l a _ hl _ => absurd hl (noOwn i l), fun i j y z l l' a _ _ hl _ _ _ => absurd hl (noOwn i l)⟩
      · by_cases hi : i < ds.length
        · rw [List.getElem?_append_left hi] at hd
          rw [List.getElem?_append_left (by omega)] at hy
          obtain ⟨v, hv, rv⟩ := r.get hd
          have rv' : Rep (fun a => O a ∨ (s.heap.get? a = none ∧ ∃ o, h₁.get? a = some o)) h₁ v d := rv.imp fun a o e nO _ => ⟨keep a o e, fun z => z.elim nO fun z => by rw [z.1] at e; cases e⟩
          refine VRep.of_rep rv' ?_
          have ndp : ps.Nodup := (List.nodup_append.mp hnd).1
          have hkb := List.all_eq_true.mp hkind y (List.mem_of_getElem? hy)
          rcases kX hkb (L + 1) with q | ⟨q, q'⟩
          · exact .inl ⟨(hKo y).trans q, _, hEl.symm ▸ nsL, bindL_at ps vs _ i y v ndp hy hv ((hKo y).trans q)⟩
          · obtain ⟨a, ha⟩ := Option.isSome_iff_exists.mp q'
            have ha' : env.cells.lookup y = some a := by rw [hEc]; exact ha
            have := x.cell y a ha'
            rw [bindC_at ps vs _ i y v ndp hy hv ((hKo y).trans q)] at this
            exact .inr (.inl ⟨(hKo y).trans q, a, ha', this⟩)
        · rw [List.getElem?_append_right (by omega)] at hd
          rw [nos_get _ _ _ hd]; trivial
      · obtain ⟨o, _, _, e, _⟩ := nsL; exact ⟨o, e⟩
      · obtain ⟨o, e', d'⟩ := x.cell y a e
        exact ⟨.inr ⟨freshC y a e, o, e'⟩, nOf a (freshC y a e), _, o, e', d'⟩
    have hb := hbody c' L (G.fa f) code (by rw [hEnv]) co' (by rw [hEnv]; exact fr')
    rw [hEnv] at hb
    have up : ∀ {s' : Shared}, s' = { s with heap := s'.heap, toks := s'.toks } → s.heap.StaysIn s'.heap → Ext s s' := fun e k => ⟨k, e⟩
    refine hb O _ _ _ sp _ _ ⟨fun ρ' e O' s' kp p' => ?_, fun d e v s' eq F rp => ?_, fun k e x s' eq u fl => ?_, fun e => ?_⟩
    · rw [e] at C
      obtain ⟨m', F'⟩ := p'.p.F
      exact C.ok .none rfl .none s' ⟨F'.keep, by rw [kp.eq]⟩ .none
    · rw [e] at C
      obtain ⟨m', F'⟩ := F
      exact C.ok d rfl v s' ⟨F'.keep, by rw [eq]⟩ rp
    · rw [e] at C
      refine fk.leave env (c.fenv :: c.outer) k x L s' _ _ _ (Around.frames_deeper co.stack) hEf fl fun h' fl' u' => ?_
      exact C.rz k rfl x _ ⟨u.trans u', by rw [eq]⟩ fl'
    · rw [e] at C; exact C.ns rfl
  · exact absurd rfl C.ns
end
end Mine
end
section
open PySem PySem.W PyProof.Rows PySem.Calls PySem.Spec
namespace Mine
noncomputable abbrev KK (env : Env) (x : Str) : Prop := env.kindOf x = some .local ∨ (env.kindOf x = some .cell ∧ (env.cells.lookup x).isSome = true)

end Mine
end
section
open PySem PySem.W PyProof.Rows PySem.Calls PySem.Spec
namespace Mine
noncomputable def cX : C := fun _ => .st
noncomputable def tX : CB := fun _ => .st
noncomputable def tV (f : C) : CB := fun ρ => (f ρ).bind trD
noncomputable def kNo : B := fun _ => .st
noncomputable def kRz : B := fun _ => .rz 0
noncomputable def kTr (b : B) : B := fun ρ => match b ρ with
  | .nx ρ' => .nx ρ'
  | .rt d => .rt d
  | _ => .st
noncomputable def kQ (f : C) : B := fun ρ => match f ρ with
  | .ok d => .nx (setN ρ 4 d)
  | .rz _ => match nth ρ 3, nth ρ 1 with
    | .int k, .lst (d0 :: _) => if dep 12 d0 = true then .rt (.bool (decide (k = 3) && !eqD 12 d0 (.tup [.int 0, .int 1]))) else .st
    | _, _ => .st
  | .st => .st
noncomputable abbrev ifBody : Stmt → List Stmt
  | .If _ b _ _ => b
  | _ => []
noncomputable abbrev raiseS : Stmt := nthS (ifBody (nthS (fBody (stAt 46)) 1)) 0
section
variable {G : Gl} {c : Act} {env : Env} {names : List Str} {n : Nat}
theorem sim_cX {e : Expr} : ESim G c env names e cX := fun _ _ _ _ _ _ K => absurd rfl K.ns
theorem sim_tX {e : Expr} : TSim G c env names e tX := fun _ _ _ _ _ _ K => absurd rfl K.ns
theorem sim_tV {e : Expr} {f : C} (h : ESim G c env names e f) (he : ∀ w : Sem Value, isTrue e env w = (do let v ← w; standAt e.pos; holding [v] (truthy v))) : TSim G c env names e (tV f) := by
  intro O ρ s p Q E K
  rw [he]
  refine sp_seq (T := fun v Q E s₁ => wpAny (model G.prog G.w) c.A (do standAt e.pos; holding [v] (truthy v)) Q E s₁) (h O ρ s p) (fun a v s₁ _ k r => ?_) (fun b s' => Q b s') E K |> fun z => wpAny_bind z
  intro Q E K
  exact wpAny_bind (wpAny_standAt (wpAny_holding (sp_truthy r Q E K)))
theorem sim_kNo {st : Stmt} : SSim G c env names st kNo := fun _ _ _ _ _ _ _ K => absurd rfl K.ns
theorem sim_kTr {body : List Stmt} {h : ExceptHandler} {hs : List ExceptHandler} {pos : Pos} {b : B} (hb : BSim G c env names body b) : SSim G c env names (.Try body (h :: hs) [] [] pos) (kTr b) := by
  intro Oe O ρ s p Q E K
  unfold kTr at K
  refine wpAny_Try_except (hb Oe O ρ s p _ _ ⟨fun ρ' e O' s' kp p' => ?_, fun d e r s' eq F rp => ?_, fun k e _ _ _ _ _ => ?_, fun e => ?_⟩)
  · rw [e] at K; exact wpAny_execs_nil (K.nx ρ' rfl O' s' kp p')
  · rw [e] at K; exact K.rt d rfl r s' eq F rp
  · rw [e] at K; exact absurd rfl K.ns
  · rw [e] at K; exact absurd rfl K.ns
theorem Act.OK.le {m n : Nat} (h : m ≤ n) {c : Act} (co : c.OK G n) : c.OK G m where
  stack := co.stack
  stays := co.stays
  frames := co.frames
  hf := co.hf
  hke := co.hke
  hh := co.hh
  depth := by have := co.depth; omega
  units := by have := co.units; omega
theorem Spec.le {m n : Nat} (h : m ≤ n) {f : Fn} {g : List D → R D} (s : Spec G m f g) : Spec G n f g := fun c O st vs ds co hp r => s c O st vs ds (co.le h) hp r
/-- a program of the same answers, where it answers -/
theorem Spec.to {n : Nat} {f : Fn} {g g' : List D → R D} (s : Spec G n f g) (h : ∀ ds, g' ds = .st ∨ g' ds = g ds) : Spec G n f g' := fun c O st vs ds co hp r Q E K => by
  rcases h ds with e | e
  · exact absurd e K.ns
  · exact s c O st vs ds co hp r Q E (e ▸ K)
end
end Mine
end
section
open PySem PySem.W PyProof.Rows PySem.Calls PySem.Spec
namespace Mine
noncomputable def b_gcd : B := (bCons (kMu 0 1 (cB bAbs (lCons (cV 0) lNil)) (cB bAbs (lCons (cV 1) lNil))) (bCons (kWh 200 (tCmp .NotEq (cV 1) (cK (.int 0))) (bCons (kMu 0 1 (cV 1) (cBin .Mod (cV 0) (cV 1))) bNil)) (bCons (kRet (cV 0)) bNil)))
noncomputable def b_bits_of : B := (bCons (kAs 1 (cK (.int 0))) (bCons (kFo 2 (sS (cTup (lCons (cK (.int 4096)) (lCons (cK (.int 64)) (lCons (cK (.int 1)) lNil))))) (bCons (kAs 3 (cBin .Pow (cK (.int 2)) (cV 2))) (bCons (kWh 70 (tCmp .GtE (cV 0) (cV 3)) (bCons (kMu 0 1 (cBin .FloorDiv (cV 0) (cV 3)) (cBin .Add (cV 1) (cV 2))) bNil)) bNil))) (bCons (kRet (cBin .Add (cV 1) (cV 0))) bNil)))
noncomputable def b_root_of (g_bits_of : List D → R D) : B := (bCons (kIf (tCmp .GtE (cV 1) (cB g_bits_of (lCons (cV 0) lNil))) (bCons (kRet (cB bMin (lCons (cV 0) (lCons (cK (.int 1)) lNil)))) bNil) bNil) (bCons (kUn 2 3 (cTup (lCons (cK (.int 0)) (lCons (cK (.int 1)) lNil)))) (bCons (kWh 70 (tCmp .LtE (cBin .Pow (cV 3) (cV 1)) (cV 0)) (bCons (kMu 2 3 (cV 3) (cBin .Mult (cK (.int 2)) (cV 3))) bNil)) (bCons (kWh 70 (tCmp .Gt (cBin .Sub (cV 3) (cV 2)) (cK (.int 1))) (bCons (kAs 4 (cBin .FloorDiv (cBin .Add (cV 2) (cV 3)) (cK (.int 2)))) (bCons (kIf (tCmp .LtE (cBin .Pow (cV 4) (cV 1)) (cV 0)) (bCons (kAs 2 (cV 4)) bNil) (bCons (kAs 3 (cV 4)) bNil)) bNil))) (bCons (kRet (cV 2)) bNil)))))
noncomputable def b_rat (g_gcd : List D → R D) : B := (bCons (kIf (tCmp .Eq (cV 1) (cK (.int 0))) (bCons kNo bNil) bNil) (bCons (kAs 2 (cIf (tCmp .Gt (cV 1) (cK (.int 0))) (cB g_gcd (lCons (cV 0) (lCons (cV 1) lNil))) (cBin .Sub (cK (.int 0)) (cB g_gcd (lCons (cV 0) (lCons (cV 1) lNil)))))) (bCons (kRet (cTup (lCons (cBin .FloorDiv (cV 0) (cV 2)) (lCons (cBin .FloorDiv (cV 1) (cV 2)) lNil)))) bNil)))
noncomputable def b_radd (g_rat : List D → R D) : B := (bCons (kRet (cB g_rat (lCons (cBin .Add (cBin .Mult (cIt (cV 0) (cK (.int 0))) (cIt (cV 1) (cK (.int 1)))) (cBin .Mult (cIt (cV 1) (cK (.int 0))) (cIt (cV 0) (cK (.int 1))))) (lCons (cBin .Mult (cIt (cV 0) (cK (.int 1))) (cIt (cV 1) (cK (.int 1)))) lNil)))) bNil)
noncomputable def b_rsub (g_rat : List D → R D) : B := (bCons (kRet (cB g_rat (lCons (cBin .Sub (cBin .Mult (cIt (cV 0) (cK (.int 0))) (cIt (cV 1) (cK (.int 1)))) (cBin .Mult (cIt (cV 1) (cK (.int 0))) (cIt (cV 0) (cK (.int 1))))) (lCons (cBin .Mult (cIt (cV 0) (cK (.int 1))) (cIt (cV 1) (cK (.int 1)))) lNil)))) bNil)
noncomputable def b_rmul (g_rat : List D → R D) : B := (bCons (kRet (cB g_rat (lCons (cBin .Mult (cIt (cV 0) (cK (.int 0))) (cIt (cV 1) (cK (.int 0)))) (lCons (cBin .Mult (cIt (cV 0) (cK (.int 1))) (cIt (cV 1) (cK (.int 1)))) lNil)))) bNil)
noncomputable def b_rdiv (g_rat : List D → R D) : B := (bCons (kRet (cB g_rat (lCons (cBin .Mult (cIt (cV 0) (cK (.int 0))) (cIt (cV 1) (cK (.int 1)))) (lCons (cBin .Mult (cIt (cV 0) (cK (.int 1))) (cIt (cV 1) (cK (.int 0)))) lNil)))) bNil)
noncomputable def b_rpower (g_bits_of : List D → R D) : B := (bCons (kIf (tCmp .Lt (cV 1) (cK (.int 0))) (bCons (kMu 0 1 cX (cBin .Sub (cK (.int 0)) (cV 1))) bNil) bNil) (bCons (kAs 2 (cB bMax (lCons (cB bAbs (lCons (cIt (cV 0) (cK (.int 0))) lNil)) (lCons (cIt (cV 0) (cK (.int 1))) lNil)))) (bCons (kIf (tAnd (tCmp .Gt (cV 1) (cK (.int 1))) (tAnd (tCmp .Gt (cV 2) (cK (.int 1))) (tAnd (tCmp .Gt (cBin .Mult (cV 1) (cB g_bits_of (lCons (cV 2) lNil))) (cK (.int 200000))) tT))) (bCons kNo bNil) bNil) (bCons (kRet (cTup (lCons (cBin .Pow (cIt (cV 0) (cK (.int 0))) (cV 1)) (lCons (cBin .Pow (cIt (cV 0) (cK (.int 1))) (cV 1)) lNil)))) bNil))))
noncomputable def b_is_vast (g_bits_of : List D → R D) : B := (bCons (kAs 1 (cB bMax (lCons (cB bAbs (lCons (cIt (cV 0) (cK (.int 0))) lNil)) (lCons (cIt (cV 0) (cK (.int 1))) lNil)))) (bCons (kRet (cAnd (cCmp .GtE (cV 1) (cBin .Pow (cK (.int 2)) (cK (.int 64)))) (cCmp .Gt (cB g_bits_of (lCons (cV 1) lNil)) (cK (.int 200000))))) bNil))
noncomputable def b_rcompare : B := (bCons (kAs 2 (cBin .Sub (cBin .Mult (cIt (cV 0) (cK (.int 0))) (cIt (cV 1) (cK (.int 1)))) (cBin .Mult (cIt (cV 1) (cK (.int 0))) (cIt (cV 0) (cK (.int 1)))))) (bCons (kRet (cBin .Sub (cCmp .Gt (cV 2) (cK (.int 0))) (cCmp .Lt (cV 2) (cK (.int 0))))) bNil))
noncomputable def b_cut : B := (bCons (kRet (cBin .Add (cB bList (lCons (cSlTo (cV 0) (cV 1)) lNil)) (cBin .Mult (cLst (lCons (cK (.tup [(.int 0), (.int 1)])) lNil)) (cBin .Sub (cV 1) (cB bLen (lCons (cV 0) lNil)))))) bNil)
noncomputable def b_let (g_is_vast : List D → R D) : B := (bCons (kIf (tV (cB g_is_vast (lCons (cV 0) lNil))) (bCons kNo bNil) bNil) (bCons (kRet (cV 0)) bNil))
noncomputable def b_sadd (g_radd : List D → R D) : B := (bCons (kRet (cComp (cB g_radd (lCons (cIt (cV 1) (cV 0)) (lCons (cIt (cV 2) (cV 0)) lNil))) [0, 1] (rOne (sR (lCons (cB bMin (lCons (cB bLen (lCons (cV 0) lNil)) (lCons (cB bLen (lCons (cV 1) lNil)) lNil))) lNil))))) bNil)
noncomputable def b_sscale (g_rmul : List D → R D) : B := (bCons (kRet (cComp (cB g_rmul (lCons (cV 1) (lCons (cV 0) lNil))) [0] (rOne (sS (cV 1))))) bNil)
noncomputable def b_mixed (g_radd g_rmul : List D → R D) : B := (bCons (kAs 3 (cK (.tup [(.int 0), (.int 1)]))) (bCons (kFo 4 (sR (lCons (cBin .Add (cV 2) (cK (.int 1))) lNil)) (bCons (kIf (tAnd (tCmp .NotEq (cIt (cV 0) (cV 4)) (cK (.tup [(.int 0), (.int 1)]))) (tAnd (tCmp .NotEq (cIt (cV 1) (cBin .Sub (cV 2) (cV 4))) (cK (.tup [(.int 0), (.int 1)]))) tT)) (bCons (kAs 3 (cB g_radd (lCons (cV 3) (lCons (cB g_rmul (lCons (cIt (cV 0) (cV 4)) (lCons (cIt (cV 1) (cBin .Sub (cV 2) (cV 4))) lNil))) lNil)))) bNil) bNil) bNil)) (bCons (kRet (cV 3)) bNil)))
noncomputable def b_smul (g_let g_mixed : List D → R D) : B := (bCons (kRet (cComp (cB g_let (lCons (cB g_mixed (lCons (cV 1) (lCons (cV 2) (lCons (cV 0) lNil)))) lNil)) [0, 1] (rOne (sR (lCons (cB bMin (lCons (cB bLen (lCons (cV 0) lNil)) (lCons (cB bLen (lCons (cV 1) lNil)) lNil))) lNil))))) bNil)
noncomputable def b_sinverse (g_rsub g_rmul g_let g_rdiv : List D → R D) : B := (bCons (kIf (tAnd (tCmp .Gt (cB bLen (lCons (cV 0) lNil)) (cK (.int 0))) (tAnd (tCmp .Eq (cIt (cV 0) (cK (.int 0))) (cK (.tup [(.int 0), (.int 1)]))) tT)) (bCons kNo bNil) bNil) (bCons (kOwnL 1 lNil) (bCons (kFo 2 (sR (lCons (cB bLen (lCons (cV 0) lNil)) lNil)) (bCons (kAs 3 (cIf (tCmp .Eq (cV 2) (cK (.int 0))) (cK (.tup [(.int 1), (.int 1)])) (cK (.tup [(.int 0), (.int 1)])))) (bCons (kFo 4 (sR (lCons (cK (.int 1)) (lCons (cBin .Add (cV 2) (cK (.int 1))) lNil))) (bCons (kAs 3 (cB g_rsub (lCons (cV 3) (lCons (cB g_rmul (lCons (cIt (cV 0) (cV 4)) (lCons (cItO 1 (cBin .Sub (cV 2) (cV 4))) lNil))) lNil)))) bNil)) (bCons (kAp 1 (cB g_let (lCons (cB g_rdiv (lCons (cV 3) (lCons (cIt (cV 0) (cK (.int 0))) lNil))) lNil))) bNil)))) (bCons (kFz 1) (bCons (kRet (cV 1)) bNil)))))
noncomputable def b_sderive (g_rmul : List D → R D) : B := (bCons (kRet (cComp (cB g_rmul (lCons (cTup (lCons (cV 0) (lCons (cK (.int 1)) lNil))) (lCons (cIt (cV 1) (cV 0)) lNil))) [0] (rOne (sR (lCons (cK (.int 1)) (lCons (cB bLen (lCons (cV 0) lNil)) lNil)))))) bNil)
noncomputable def b_sintegrate (g_rdiv : List D → R D) : B := (bCons (kRet (cBin .Add (cLst (lCons (cK (.tup [(.int 0), (.int 1)])) lNil)) (cComp (cB g_rdiv (lCons (cIt (cV 1) (cV 0)) (lCons (cTup (lCons (cBin .Add (cV 0) (cK (.int 1))) (lCons (cK (.int 1)) lNil))) lNil))) [0] (rOne (sR (lCons (cB bLen (lCons (cV 0) lNil)) lNil)))))) bNil)
noncomputable def b_need_begin (g_rcompare : List D → R D) : B := (bCons (kIf (tAnd (tCmp .Gt (cB bLen (lCons (cV 0) lNil)) (cK (.int 0))) (tAnd (tCmp .NotEq (cB g_rcompare (lCons (cIt (cV 0) (cK (.int 0))) (lCons (cV 1) lNil))) (cK (.int 0))) tT)) (bCons kNo bNil) bNil) bNil)
noncomputable def b_sexp (g_need_begin g_radd g_rmul g_let g_rdiv : List D → R D) : B := (bCons (kEx (cB g_need_begin (lCons (cV 0) (lCons (cK (.tup [(.int 0), (.int 1)])) lNil)))) (bCons (kOwnL 1 lNil) (bCons (kFo 2 (sR (lCons (cB bLen (lCons (cV 0) lNil)) lNil)) (bCons (kAs 3 (cK (.tup [(.int 0), (.int 1)]))) (bCons (kFo 4 (sR (lCons (cK (.int 1)) (lCons (cBin .Add (cV 2) (cK (.int 1))) lNil))) (bCons (kAs 3 (cB g_radd (lCons (cV 3) (lCons (cB g_rmul (lCons (cB g_rmul (lCons (cTup (lCons (cV 4) (lCons (cK (.int 1)) lNil))) (lCons (cIt (cV 0) (cV 4)) lNil))) (lCons (cItO 1 (cBin .Sub (cV 2) (cV 4))) lNil))) lNil)))) bNil)) (bCons (kAp 1 (cIf (tCmp .Eq (cV 2) (cK (.int 0))) (cK (.tup [(.int 1), (.int 1)])) (cB g_let (lCons (cB g_rdiv (lCons (cV 3) (lCons (cTup (lCons (cV 2) (lCons (cK (.int 1)) lNil))) lNil))) lNil)))) bNil)))) (bCons (kFz 1) (bCons (kRet (cV 1)) bNil)))))
noncomputable def b_slog (g_need_begin g_sintegrate g_smul g_sderive g_sinverse : List D → R D) : B := (bCons (kEx (cB g_need_begin (lCons (cV 0) (lCons (cK (.tup [(.int 1), (.int 1)])) lNil)))) (bCons (kIf (tCmp .Eq (cB bLen (lCons (cV 0) lNil)) (cK (.int 0))) (bCons (kRet (cLst lNil)) bNil) bNil) (bCons (kRet (cB g_sintegrate (lCons (cB g_smul (lCons (cB g_sderive (lCons (cV 0) lNil)) (lCons (cB g_sinverse (lCons (cV 0) lNil)) lNil))) lNil))) bNil)))
noncomputable def b_ssin_cos (g_need_begin g_rmul g_radd g_rsub g_let g_rdiv : List D → R D) : B := (bCons (kEx (cB g_need_begin (lCons (cV 0) (lCons (cK (.tup [(.int 0), (.int 1)])) lNil)))) (bCons (kOwn2 1 2) (bCons (kFo 3 (sR (lCons (cB bLen (lCons (cV 0) lNil)) lNil)) (bCons (kMu 4 5 (cK (.tup [(.int 0), (.int 1)])) (cK (.tup [(.int 0), (.int 1)]))) (bCons (kFo 6 (sR (lCons (cK (.int 1)) (lCons (cBin .Add (cV 3) (cK (.int 1))) lNil))) (bCons (kAs 7 (cB g_rmul (lCons (cTup (lCons (cV 6) (lCons (cK (.int 1)) lNil))) (lCons (cIt (cV 0) (cV 6)) lNil)))) (bCons (kAs 4 (cB g_radd (lCons (cV 4) (lCons (cB g_rmul (lCons (cV 7) (lCons (cItO 2 (cBin .Sub (cV 3) (cV 6))) lNil))) lNil)))) (bCons (kAs 5 (cB g_rsub (lCons (cV 5) (lCons (cB g_rmul (lCons (cV 7) (lCons (cItO 1 (cBin .Sub (cV 3) (cV 6))) lNil))) lNil)))) bNil)))) (bCons (kAp 1 (cIf (tCmp .Eq (cV 3) (cK (.int 0))) (cK (.tup [(.int 0), (.int 1)])) (cB g_let (lCons (cB g_rdiv (lCons (cV 4) (lCons (cTup (lCons (cV 3) (lCons (cK (.int 1)) lNil))) lNil))) lNil)))) (bCons (kAp 2 (cIf (tCmp .Eq (cV 3) (cK (.int 0))) (cK (.tup [(.int 1), (.int 1)])) (cB g_let (lCons (cB g_rdiv (lCons (cV 5) (lCons (cTup (lCons (cV 3) (lCons (cK (.int 1)) lNil))) lNil))) lNil)))) bNil))))) (bCons (kFz 1) (bCons (kFz 2) (bCons (kRet (cTup (lCons (cV 1) (lCons (cV 2) lNil)))) bNil))))))
noncomputable def b_ssin (g_ssin_cos : List D → R D) : B := (bCons (kRet (cIt (cB g_ssin_cos (lCons (cV 0) lNil)) (cK (.int 0)))) bNil)
noncomputable def b_spower (g_need_begin g_rsub g_rmul g_radd g_let g_rdiv : List D → R D) : B := (bCons (kEx (cB g_need_begin (lCons (cV 0) (lCons (cK (.tup [(.int 1), (.int 1)])) lNil)))) (bCons (kOwnL 2 lNil) (bCons (kFo 3 (sR (lCons (cB bLen (lCons (cV 0) lNil)) lNil)) (bCons (kAs 4 (cK (.tup [(.int 0), (.int 1)]))) (bCons (kFo 5 (sR (lCons (cK (.int 1)) (lCons (cBin .Add (cV 3) (cK (.int 1))) lNil))) (bCons (kAs 6 (cB g_rsub (lCons (cB g_rmul (lCons (cV 1) (lCons (cTup (lCons (cV 5) (lCons (cK (.int 1)) lNil))) lNil))) (lCons (cTup (lCons (cBin .Sub (cV 3) (cV 5)) (lCons (cK (.int 1)) lNil))) lNil)))) (bCons (kAs 4 (cB g_radd (lCons (cV 4) (lCons (cB g_rmul (lCons (cB g_rmul (lCons (cV 6) (lCons (cIt (cV 0) (cV 5)) lNil))) (lCons (cItO 2 (cBin .Sub (cV 3) (cV 5))) lNil))) lNil)))) bNil))) (bCons (kAp 2 (cIf (tCmp .Eq (cV 3) (cK (.int 0))) (cK (.tup [(.int 1), (.int 1)])) (cB g_let (lCons (cB g_rdiv (lCons (cV 4) (lCons (cTup (lCons (cV 3) (lCons (cK (.int 1)) lNil))) lNil))) lNil)))) bNil)))) (bCons (kFz 2) (bCons (kRet (cV 2)) bNil)))))
noncomputable def b_swhole_power (g_sinverse g_cut g_smul : List D → R D) : B := (bCons (kAs 2 (cIf (tCmp .Lt (cV 1) (cK (.int 0))) (cB g_sinverse (lCons (cV 0) lNil)) (cV 0))) (bCons (kMu 3 4 (cB g_cut (lCons (cLst (lCons (cK (.tup [(.int 1), (.int 1)])) lNil)) (lCons (cB bLen (lCons (cV 0) lNil)) lNil))) (cB bAbs (lCons (cV 1) lNil))) (bCons (kWh 20 (tCmp .Gt (cV 4) (cK (.int 0))) (bCons (kIf (tCmp .Eq (cBin .Mod (cV 4) (cK (.int 2))) (cK (.int 1))) (bCons (kAs 3 (cB g_smul (lCons (cV 3) (lCons (cV 2) lNil)))) bNil) bNil) (bCons (kAs 4 (cBin .FloorDiv (cV 4) (cK (.int 2)))) (bCons (kAs 2 (cIf (tCmp .Gt (cV 4) (cK (.int 0))) (cB g_smul (lCons (cV 2) (lCons (cV 2) lNil))) (cV 2))) bNil)))) (bCons (kRet (cV 3)) bNil))))
noncomputable def b_lplain : B := (bCons (kRet (cTup (lCons (cK (.int 0)) (lCons (cBin .Add (cLst (lCons (cV 0) lNil)) (cBin .Mult (cLst (lCons (cK (.tup [(.int 0), (.int 1)])) lNil)) (cBin .Sub (cV 1) (cK (.int 1))))) lNil)))) bNil)
noncomputable def b_ladd (g_sadd : List D → R D) : B := (bCons (kAs 2 (cB bMin (lCons (cIt (cV 0) (cK (.int 0))) (lCons (cIt (cV 1) (cK (.int 0))) lNil)))) (bCons (kAs 3 (cBin .Sub (cB bMin (lCons (cBin .Add (cIt (cV 0) (cK (.int 0))) (cB bLen (lCons (cIt (cV 0) (cK (.int 1))) lNil))) (lCons (cBin .Add (cIt (cV 1) (cK (.int 0))) (cB bLen (lCons (cIt (cV 1) (cK (.int 1))) lNil))) lNil))) (cV 2))) (bCons (kUn 4 5 (cComp (cSlTo (cBin .Add (cBin .Mult (cLst (lCons (cK (.tup [(.int 0), (.int 1)])) lNil)) (cB bMin (lCons (cBin .Sub (cIt (cV 0) (cK (.int 0))) (cV 1)) (lCons (cV 2) lNil)))) (cIt (cV 0) (cK (.int 1)))) (cV 2)) [2, 3] (rOne (sS (cTup (lCons (cV 0) (lCons (cV 1) lNil))))))) (bCons (kRet (cTup (lCons (cV 2) (lCons (cB g_sadd (lCons (cV 4) (lCons (cV 5) lNil))) lNil)))) bNil))))
noncomputable def b_lmul (g_smul : List D → R D) : B := (bCons (kRet (cTup (lCons (cBin .Add (cIt (cV 0) (cK (.int 0))) (cIt (cV 1) (cK (.int 0)))) (lCons (cB g_smul (lCons (cIt (cV 0) (cK (.int 1))) (lCons (cIt (cV 1) (cK (.int 1))) lNil))) lNil)))) bNil)
noncomputable def b_ltrim : B := (bCons (kUn 1 2 (cV 0)) (bCons (kWh 20 (tAnd (tCmp .Gt (cB bLen (lCons (cV 2) lNil)) (cK (.int 0))) (tAnd (tCmp .Eq (cIt (cV 2) (cK (.int 0))) (cK (.tup [(.int 0), (.int 1)]))) tT)) (bCons (kMu 1 2 (cBin .Add (cV 1) (cK (.int 1))) (cSlFrom (cV 2) 1)) bNil)) (bCons (kRet (cTup (lCons (cV 1) (lCons (cV 2) lNil)))) bNil)))
noncomputable def b_linverse (g_ltrim g_sinverse : List D → R D) : B := (bCons (kUn 1 2 (cB g_ltrim (lCons (cV 0) lNil))) (bCons (kIf (tCmp .Eq (cB bLen (lCons (cV 2) lNil)) (cK (.int 0))) (bCons kNo bNil) bNil) (bCons (kRet (cTup (lCons (cBin .Sub (cK (.int 0)) (cV 1)) (lCons (cB g_sinverse (lCons (cV 2) lNil)) lNil)))) bNil)))
noncomputable def b_lpower (g_lpower g_linverse g_ltrim g_rpower g_swhole_power g_sscale g_spower g_rdiv : List D → R D) : B := (bCons (kIf (tCmp .Eq (cV 1) (cK (.int 0))) (bCons (kRet (cTup (lCons (cK (.int 0)) (lCons (cBin .Add (cLst (lCons (cK (.tup [(.int 1), (.int 1)])) lNil)) (cBin .Mult (cLst (lCons (cK (.tup [(.int 0), (.int 1)])) lNil)) (cBin .Sub (cB bLen (lCons (cIt (cV 0) (cK (.int 1))) lNil)) (cK (.int 1))))) lNil)))) bNil) bNil) (bCons (kIf (tCmp .Lt (cV 1) (cK (.int 0))) (bCons (kRet (cB g_lpower (lCons (cB g_linverse (lCons (cV 0) lNil)) (lCons (cBin .Sub (cK (.int 0)) (cV 1)) lNil)))) bNil) bNil) (bCons (kUn 2 3 (cB g_ltrim (lCons (cV 0) lNil))) (bCons (kAs 4 (cIf (tCmp .Gt (cB bLen (lCons (cV 3) lNil)) (cK (.int 0))) (cB g_rpower (lCons (cIt (cV 3) (cK (.int 0))) (lCons (cV 1) lNil))) (cK (.tup [(.int 1), (.int 1)])))) (bCons (kIf (tOr (tCmp .LtE (cV 1) (cK (.int 1000))) (tOr (tCmp .Eq (cB bLen (lCons (cV 3) lNil)) (cK (.int 0))) tF)) (bCons (kRet (cTup (lCons (cBin .Mult (cV 2) (cV 1)) (lCons (cB g_swhole_power (lCons (cV 3) (lCons (cV 1) lNil))) lNil)))) bNil) bNil) (bCons (kRet (cTup (lCons (cBin .Mult (cV 2) (cV 1)) (lCons (cB g_sscale (lCons (cV 4) (lCons (cB g_spower (lCons (cB g_sscale (lCons (cB g_rdiv (lCons (cK (.tup [(.int 1), (.int 1)])) (lCons (cIt (cV 3) (cK (.int 0))) lNil))) (lCons (cV 3) lNil))) (lCons (cTup (lCons (cV 1) (lCons (cK (.int 1)) lNil))) lNil))) lNil))) lNil)))) bNil))))))
noncomputable def b_lcut (g_ltrim : List D → R D) : B := (bCons (kUn 2 3 (cB g_ltrim (lCons (cV 0) lNil))) (bCons (kIf (tAnd (tCmp .Gt (cB bLen (lCons (cV 3) lNil)) (cK (.int 0))) (tAnd (tCmp .Lt (cV 2) (cK (.int 0))) tT)) (bCons kRz bNil) bNil) (bCons (kIf (tCmp .Lt (cBin .Add (cV 2) (cB bLen (lCons (cV 3) lNil))) (cV 1)) (bCons (kRet (cK .none)) bNil) bNil) (bCons (kRet (cIf (tCmp .GtE (cV 2) (cK (.int 0))) (cSlTo (cBin .Add (cBin .Mult (cLst (lCons (cK (.tup [(.int 0), (.int 1)])) lNil)) (cB bMin (lCons (cV 2) (lCons (cV 1) lNil)))) (cV 3)) (cV 1)) (cBin .Mult (cLst (lCons (cK (.tup [(.int 0), (.int 1)])) lNil)) (cV 1)))) bNil))))
noncomputable def b_exact_root (g_root_of : List D → R D) : B := (bCons (kMu 2 3 (cB g_root_of (lCons (cIt (cV 0) (cK (.int 0))) (lCons (cV 1) lNil))) (cB g_root_of (lCons (cIt (cV 0) (cK (.int 1))) (lCons (cV 1) lNil)))) (bCons (kRet (cIf (tAnd (tCmp .Eq (cBin .Pow (cV 2) (cV 1)) (cIt (cV 0) (cK (.int 0)))) (tAnd (tCmp .Eq (cBin .Pow (cV 3) (cV 1)) (cIt (cV 0) (cK (.int 1)))) tT)) (cTup (lCons (cV 2) (lCons (cV 3) lNil))) (cK .none))) bNil))
noncomputable def b_from_zero (g_ltrim : List D → R D) : B := (bCons (kUn 2 3 (cB g_ltrim (lCons (cV 0) lNil))) (bCons (kIf (tAnd (tCmp .Eq (cB bLen (lCons (cV 3) lNil)) (cK (.int 0))) (tAnd (tCmp .LtE (cV 2) (cK (.int 0))) tT)) (bCons kNo bNil) bNil) (bCons (kIf (tCmp .Lt (cV 2) (cK (.int 0))) (bCons kNo bNil) bNil) (bCons (kRet (cIf (tCmp .Gt (cV 2) (cV 1)) (cBin .Mult (cLst (lCons (cK (.tup [(.int 0), (.int 1)])) lNil)) (cV 1)) (cBin .Add (cBin .Mult (cLst (lCons (cK (.tup [(.int 0), (.int 1)])) lNil)) (cV 2)) (cV 3)))) bNil))))
noncomputable def b_of_call (g_ltrim g_from_zero g_sexp g_slog g_ssin g_lmul g_lpower : List D → R D) : B := (bCons (kUn 3 4 (cB g_ltrim (lCons (cV 1) lNil))) (bCons (kIf (tAnd (tCmp .Gt (cV 3) (cV 2)) (tAnd (tCmp .In (cV 0) (cTup (lCons (cK (.str 7)) (lCons (cK (.str 8)) (lCons (cK (.str 9)) lNil))))) tT)) (bCons (kRet (cTup (lCons (cV 3) (lCons (cSlTo (cV 4) (cBin .Mult (cK (.int 2)) (cV 3))) lNil)))) bNil) bNil) (bCons (kAs 5 (cB g_from_zero (lCons (cV 1) (lCons (cV 2) lNil)))) (bCons (kIf (tCmp .Eq (cV 0) (cK (.str 10))) (bCons (kRet (cTup (lCons (cK (.int 0)) (lCons (cB g_sexp (lCons (cV 5) lNil)) lNil)))) bNil) bNil) (bCons (kIf (tCmp .Eq (cV 0) (cK (.str 11))) (bCons (kRet (cTup (lCons (cK (.int 0)) (lCons (cB g_slog (lCons (cV 5) lNil)) lNil)))) bNil) bNil) (bCons (kIf (tCmp .Eq (cV 0) (cK (.str 7))) (bCons (kRet (cTup (lCons (cK (.int 0)) (lCons (cB g_ssin (lCons (cV 5) lNil)) lNil)))) bNil) bNil) (bCons (kIf (tCmp .Eq (cV 0) (cK (.str 12))) (bCons (kRet (cTup (lCons (cK (.int 0)) (lCons cX lNil)))) bNil) bNil) (bCons (kIf (tCmp .Eq (cV 0) (cK (.str 8))) (bCons (kRet (cB g_lmul (lCons (cTup (lCons (cK (.int 0)) (lCons (cB g_ssin (lCons (cV 5) lNil)) lNil))) (lCons (cB g_lpower (lCons (cTup (lCons (cK (.int 0)) (lCons cX lNil))) (lCons (cK (.int (-1))) lNil))) lNil)))) bNil) bNil) (bCons (kIf (tCmp .Eq (cV 0) (cK (.str 9))) (bCons (kRet (cTup (lCons (cK (.int 0)) (lCons cX lNil)))) bNil) bNil) (bCons kNo bNil))))))))))
noncomputable def b_of_root (g_ltrim g_exact_root g_rdiv g_rpower g_sscale g_spower : List D → R D) : B := (bCons (kUn 2 3 (cB g_ltrim (lCons (cV 0) lNil))) (bCons (kIf (tCmp .Eq (cB bLen (lCons (cV 3) lNil)) (cK (.int 0))) (bCons kNo bNil) bNil) (bCons (kIf (tOr (tCmp .NotEq (cBin .Mod (cBin .Mult (cV 2) (cIt (cV 1) (cK (.int 0)))) (cIt (cV 1) (cK (.int 1)))) (cK (.int 0))) (tOr (tCmp .LtE (cIt (cIt (cV 3) (cK (.int 0))) (cK (.int 0))) (cK (.int 0))) tF)) (bCons kNo bNil) bNil) (bCons (kAs 4 (cB g_exact_root (lCons (cIt (cV 3) (cK (.int 0))) (lCons (cIt (cV 1) (cK (.int 1))) lNil)))) (bCons (kIf (tCmp .Is (cV 4) (cK .none)) (bCons kNo bNil) bNil) (bCons (kIf (tCmp .Lt (cIt (cV 1) (cK (.int 0))) (cK (.int 0))) (bCons (kAs 4 (cB g_rdiv (lCons (cK (.tup [(.int 1), (.int 1)])) (lCons (cV 4) lNil)))) bNil) bNil) (bCons (kAs 5 (cB g_rpower (lCons (cV 4) (lCons (cB bAbs (lCons (cIt (cV 1) (cK (.int 0))) lNil)) lNil)))) (bCons (kRet (cTup (lCons (cBin .FloorDiv (cBin .Mult (cV 2) (cIt (cV 1) (cK (.int 0)))) (cIt (cV 1) (cK (.int 1)))) (lCons (cB g_sscale (lCons (cV 5) (lCons (cB g_spower (lCons (cB g_sscale (lCons (cB g_rdiv (lCons (cK (.tup [(.int 1), (.int 1)])) (lCons (cIt (cV 3) (cK (.int 0))) lNil))) (lCons (cV 3) lNil))) (lCons (cV 1) lNil))) lNil))) lNil)))) bNil))))))))
noncomputable def b_of_power (g_of_term g_lpower g_of_root : List D → R D) : B := (bCons (kIf (tCmp .NotEq (cIt (cV 1) (cK (.int 0))) (cK (.str 0))) (bCons kNo bNil) bNil) (bCons (kIf (tAnd (tCmp .Eq (cV 0) (cTup (lCons (cK (.str 0)) (lCons (cK (.int 0)) (lCons (cK (.int 1)) lNil))))) (tAnd (tCmp .NotEq (cIt (cV 1) (cK (.int 2))) (cK (.int 1))) tT)) (bCons kNo bNil) bNil) (bCons (kAs 4 (cB g_of_term (lCons (cV 0) (lCons (cV 2) (lCons (cV 3) lNil))))) (bCons (kIf (tCmp .Eq (cIt (cV 1) (cK (.int 2))) (cK (.int 1))) (bCons (kRet (cB g_lpower (lCons (cV 4) (lCons (cIt (cV 1) (cK (.int 1))) lNil)))) bNil) bNil) (bCons (kRet (cB g_of_root (lCons (cV 4) (lCons (cTup (lCons (cIt (cV 1) (cK (.int 1))) (lCons (cIt (cV 1) (cK (.int 2))) lNil))) lNil)))) bNil)))))
noncomputable def b_of_sum (g_lplain g_ladd : List D → R D) : B := (bCons (kAs 2 (cIf (tCmp .Gt (cB bLen (lCons (cV 0) lNil)) (cK (.int 0))) (cIt (cV 0) (cK (.int 0))) (cB g_lplain (lCons (cK (.tup [(.int 0), (.int 1)])) (lCons (cV 1) lNil))))) (bCons (kFo 3 (sS (cSlFrom (cV 0) 1)) (bCons (kAs 2 (cB g_ladd (lCons (cV 2) (lCons (cV 3) lNil)))) bNil)) (bCons (kRet (cV 2)) bNil)))
noncomputable def b_of_term (g_lplain g_of_power g_of_call g_of_term g_of_sum g_lmul : List D → R D) : B := (bCons (kIf (tCmp .Eq (cIt (cV 0) (cK (.int 0))) (cK (.str 0))) (bCons (kRet (cB g_lplain (lCons (cTup (lCons (cIt (cV 0) (cK (.int 1))) (lCons (cIt (cV 0) (cK (.int 2))) lNil))) (lCons (cV 1) lNil)))) bNil) bNil) (bCons (kIf (tCmp .Eq (cIt (cV 0) (cK (.int 0))) (cK (.str 1))) (bCons (kIf (tCmp .NotEq (cIt (cV 0) (cK (.int 1))) (cIt (cV 2) (cK (.int 0)))) (bCons kNo bNil) bNil) (bCons (kRet (cTup (lCons (cIt (cIt (cV 2) (cK (.int 1))) (cK (.int 0))) (lCons (cBin .Add (cIt (cIt (cV 2) (cK (.int 1))) (cK (.int 1))) (cBin .Mult (cLst (lCons (cK (.tup [(.int 0), (.int 1)])) lNil)) (cBin .Sub (cV 1) (cB bLen (lCons (cIt (cIt (cV 2) (cK (.int 1))) (cK (.int 1))) lNil))))) lNil)))) bNil)) bNil) (bCons (kIf (tCmp .Eq (cIt (cV 0) (cK (.int 0))) (cK (.str 2))) (bCons (kRet (cB g_of_power (lCons (cIt (cV 0) (cK (.int 1))) (lCons (cIt (cV 0) (cK (.int 2))) (lCons (cV 1) (lCons (cV 2) lNil)))))) bNil) bNil) (bCons (kIf (tAnd (tCmp .Eq (cIt (cV 0) (cK (.int 0))) (cK (.str 3))) (tAnd (tCmp .Eq (cIt (cV 0) (cK (.int 1))) (cK (.str 4))) (tAnd (tCmp .Eq (cB bLen (lCons (cIt (cV 0) (cK (.int 2))) lNil)) (cK (.int 1))) tT))) (bCons (kRet (cB g_of_power (lCons (cIt (cIt (cV 0) (cK (.int 2))) (cK (.int 0))) (lCons (cTup (lCons (cK (.str 0)) (lCons (cK (.int 1)) (lCons (cK (.int 2)) lNil)))) (lCons (cV 1) (lCons (cV 2) lNil)))))) bNil) bNil) (bCons (kIf (tAnd (tCmp .Eq (cIt (cV 0) (cK (.int 0))) (cK (.str 3))) (tAnd (tCmp .Eq (cB bLen (lCons (cIt (cV 0) (cK (.int 2))) lNil)) (cK (.int 1))) tT)) (bCons (kRet (cB g_of_call (lCons (cIt (cV 0) (cK (.int 1))) (lCons (cB g_of_term (lCons (cIt (cIt (cV 0) (cK (.int 2))) (cK (.int 0))) (lCons (cV 1) (lCons (cV 2) lNil)))) (lCons (cV 1) lNil))))) bNil) bNil) (bCons (kIf (tCmp .NotIn (cIt (cV 0) (cK (.int 0))) (cTup (lCons (cK (.str 5)) (lCons (cK (.str 6)) lNil)))) (bCons kNo bNil) bNil) (bCons (kAsC 3 (cB g_of_term (lCons (cV 0) (lCons (cV 1) (lCons (cV 2) lNil)))) [1, 2] (rOne (sS (cIt (cV 0) (cK (.int 1)))))) (bCons (kIf (tCmp .Eq (cIt (cV 0) (cK (.int 0))) (cK (.str 5))) (bCons (kRet (cB g_of_sum (lCons (cV 3) (lCons (cV 1) lNil)))) bNil) bNil) (bCons (kAs 4 (cB g_lplain (lCons (cK (.tup [(.int 1), (.int 1)])) (lCons (cV 1) lNil)))) (bCons (kFo 5 (sS (cV 3)) (bCons (kAs 4 (cB g_lmul (lCons (cV 4) (lCons (cV 5) lNil)))) bNil)) (bCons (kRet (cV 4)) bNil)))))))))))
noncomputable def b_laurent_of (g_of_term : List D → R D) : B := (bCons (kFo 3 (sS (cK (.tup [(.int 0), (.int 2), (.int 4), (.int 8), (.int 16), (.int 32), (.int 64)]))) (bCons (kTr (bCons (kAs 4 (cB g_of_term (lCons (cV 0) (lCons (cBin .Add (cB bMax (lCons (cV 2) (lCons (cK (.int 1)) lNil))) (cV 3)) (lCons (cV 1) lNil))))) (bCons (kIf (tCmp .GtE (cBin .Add (cIt (cV 4) (cK (.int 0))) (cB bLen (lCons (cIt (cV 4) (cK (.int 1))) lNil))) (cV 2)) (bCons (kRet (cV 4)) bNil) bNil) bNil))) bNil)) (bCons kNo bNil))
noncomputable def b_series_of (g_lcut g_laurent_of : List D → R D) : B := (bCons (kAs 4 (cB g_lcut (lCons (cB g_laurent_of (lCons (cV 0) (lCons (cTup (lCons (cV 1) (lCons (cTup (lCons (cK (.int 0)) (lCons (cLst (lCons (cV 2) (lCons (cK (.tup [(.int 1), (.int 1)])) lNil))) lNil))) lNil))) (lCons (cV 3) lNil)))) (lCons (cV 3) lNil)))) (bCons (kIf (tCmp .Is (cV 4) (cK .none)) (bCons kNo bNil) bNil) (bCons (kRet (cV 4)) bNil)))
noncomputable def b_t_num (g_rat : List D → R D) : B := (bCons (kAs 2 (cB g_rat (lCons (cV 0) (lCons (cV 1) lNil)))) (bCons (kRet (cTup (lCons (cK (.str 0)) (lCons (cIt (cV 2) (cK (.int 0))) (lCons (cIt (cV 2) (cK (.int 1))) lNil))))) bNil))
noncomputable def b_t_sym : B := (bCons (kRet (cTup (lCons (cK (.str 1)) (lCons (cV 0) lNil)))) bNil)
noncomputable def b_t_sum : B := (bCons (kIf (tCmp .Eq (cB bLen (lCons (cV 0) lNil)) (cK (.int 0))) (bCons (kRet (cK (.tup [(.str 0), (.int 0), (.int 1)]))) bNil) bNil) (bCons (kRet (cIf (tCmp .Eq (cB bLen (lCons (cV 0) lNil)) (cK (.int 1))) (cIt (cV 0) (cK (.int 0))) (cTup (lCons (cK (.str 5)) (lCons (cB bTuple (lCons (cV 0) lNil)) lNil))))) bNil))
noncomputable def b_t_prod : B := (bCons (kIf (tCmp .Eq (cB bLen (lCons (cV 0) lNil)) (cK (.int 0))) (bCons (kRet (cK (.tup [(.str 0), (.int 1), (.int 1)]))) bNil) bNil) (bCons (kRet (cIf (tCmp .Eq (cB bLen (lCons (cV 0) lNil)) (cK (.int 1))) (cIt (cV 0) (cK (.int 0))) (cTup (lCons (cK (.str 6)) (lCons (cB bTuple (lCons (cV 0) lNil)) lNil))))) bNil))
noncomputable def b_t_pow : B := (bCons (kRet (cTup (lCons (cK (.str 2)) (lCons (cV 0) (lCons (cV 1) lNil))))) bNil)
noncomputable def b_t_call : B := (bCons (kRet (cTup (lCons (cK (.str 3)) (lCons (cV 0) (lCons (cB bTuple (lCons (cV 1) lNil)) lNil))))) bNil)
noncomputable def b_t_quotient : B := (bCons (kRet (cTup (lCons (cK (.str 6)) (lCons (cTup (lCons (cV 0) (lCons (cTup (lCons (cK (.str 2)) (lCons (cV 1) (lCons (cK (.tup [(.str 0), (.int (-1)), (.int 1)])) lNil)))) lNil))) lNil)))) bNil)
noncomputable def b_law_part (g_t_sum g_t_num g_t_prod g_t_call g_t_pow : List D → R D) : B := (bCons (kAs 3 (cB g_t_sum (lCons (cLst (lCons (cB g_t_num (lCons (cK (.int 1)) (lCons (cK (.int 1)) lNil))) (lCons (cB g_t_prod (lCons (cLst (lCons (cB g_t_num (lCons (cV 1) (lCons (cK (.int 1)) lNil))) (lCons (cV 2) lNil))) lNil)) lNil))) lNil))) (bCons (kIf (tCmp .Eq (cV 0) (cK (.int 0))) (bCons (kRet (cB g_t_sum (lCons (cLst (lCons (cB g_t_num (lCons (cV 1) (lCons (cK (.int 1)) lNil))) (lCons (cV 2) lNil))) lNil))) bNil) bNil) (bCons (kIf (tCmp .Eq (cV 0) (cK (.int 1))) (bCons (kRet (cB g_t_call (lCons (cK (.str 10)) (lCons (cLst (lCons (cV 2) lNil)) lNil)))) bNil) bNil) (bCons (kIf (tCmp .Eq (cV 0) (cK (.int 2))) (bCons (kRet (cB g_t_pow (lCons (cV 3) (lCons (cB g_t_num (lCons (cK (.int (-1))) (lCons (cK (.int 1)) lNil))) lNil)))) bNil) bNil) (bCons (kIf (tCmp .Eq (cV 0) (cK (.int 3))) (bCons (kRet (cB g_t_call (lCons (cK (.str 7)) (lCons (cLst (lCons (cV 2) lNil)) lNil)))) bNil) bNil) (bCons (kIf (tCmp .Eq (cV 0) (cK (.int 4))) (bCons (kRet (cB g_t_call (lCons (cK (.str 11)) (lCons (cLst (lCons (cV 3) lNil)) lNil)))) bNil) bNil) (bCons (kIf (tCmp .Eq (cV 0) (cK (.int 5))) (bCons (kRet (cB g_t_pow (lCons (cV 3) (lCons (cB g_t_num (lCons (cK (.int 1)) (lCons (cK (.int 2)) lNil))) lNil)))) bNil) bNil) (bCons (kRet (cB g_t_prod (lCons (cLst (lCons (cB g_t_num (lCons (cV 1) (lCons (cK (.int 1)) lNil))) (lCons (cV 2) lNil))) lNil))) bNil))))))))
noncomputable def b_law_lowest : B := (bCons (kMu 2 3 (cB bAbs (lCons (cV 0) lNil)) (cV 1)) (bCons (kWh 200 (tCmp .NotEq (cV 3) (cK (.int 0))) (bCons (kMu 2 3 (cV 3) (cBin .Mod (cV 2) (cV 3))) bNil)) (bCons (kRet (cTup (lCons (cBin .FloorDiv (cV 0) (cV 2)) (lCons (cBin .FloorDiv (cV 1) (cV 2)) lNil)))) bNil)))
noncomputable def b_law_plus (g_law_lowest : List D → R D) : B := (bCons (kRet (cB g_law_lowest (lCons (cBin .Add (cBin .Mult (cIt (cV 0) (cK (.int 0))) (cIt (cV 1) (cK (.int 1)))) (cBin .Mult (cIt (cV 1) (cK (.int 0))) (cIt (cV 0) (cK (.int 1))))) (lCons (cBin .Mult (cIt (cV 0) (cK (.int 1))) (cIt (cV 1) (cK (.int 1)))) lNil)))) bNil)
noncomputable def b_law_cauchy (g_law_plus : List D → R D) : B := (bCons (kOwnL 2 lNil) (bCons (kFo 3 (sR (lCons (cB bLen (lCons (cV 1) lNil)) lNil)) (bCons (kAs 4 (cTup (lCons (cK (.int 0)) (lCons (cK (.int 1)) lNil)))) (bCons (kFo 5 (sR (lCons (cB bMin (lCons (cBin .Add (cV 3) (cK (.int 1))) (lCons (cB bLen (lCons (cV 0) lNil)) lNil))) lNil)) (bCons (kAs 4 (cB g_law_plus (lCons (cV 4) (lCons (cTup (lCons (cBin .Mult (cIt (cIt (cV 0) (cV 5)) (cK (.int 0))) (cIt (cIt (cV 1) (cBin .Sub (cV 3) (cV 5))) (cK (.int 0)))) (lCons (cBin .Mult (cIt (cIt (cV 0) (cV 5)) (cK (.int 1))) (cIt (cIt (cV 1) (cBin .Sub (cV 3) (cV 5))) (cK (.int 1)))) lNil))) lNil)))) bNil)) (bCons (kAp 2 (cV 4)) bNil)))) (bCons (kFz 2) (bCons (kRet (cV 2)) bNil))))
noncomputable def b_law_told (g_series_of : List D → R D) : B := (bCons (kRet (cB g_series_of (lCons (cV 0) (lCons (cK (.str 15)) (lCons (cTup (lCons (cK (.int 0)) (lCons (cK (.int 1)) lNil))) (lCons (cV 1) lNil)))))) bNil)
noncomputable def b_law_deeds_right (g_law_told g_t_sum g_law_plus g_law_cauchy g_t_pow g_t_num g_t_prod : List D → R D) : B := (bCons (kIf (tCmp .NotEq (cB g_law_told (lCons (cB g_t_sum (lCons (cLst (lCons (cV 0) (lCons (cV 1) lNil))) lNil)) (lCons (cK (.int 4)) lNil))) (cComp (cB g_law_plus (lCons (cV 0) (lCons (cV 1) lNil))) [] (rZip (lCons (cV 2) (lCons (cV 3) lNil))))) (bCons (kRet (cK (.bool false))) bNil) bNil) (bCons (kAs 5 (cV 2)) (bCons (kFo 6 (sR (lCons (cBin .Sub (cV 4) (cK (.int 1))) lNil)) (bCons (kAs 5 (cB g_law_cauchy (lCons (cV 5) (lCons (cV 2) lNil)))) bNil)) (bCons (kIf (tCmp .NotEq (cB g_law_told (lCons (cB g_t_pow (lCons (cV 0) (lCons (cB g_t_num (lCons (cV 4) (lCons (cK (.int 1)) lNil))) lNil))) (lCons (cK (.int 4)) lNil))) (cV 5)) (bCons (kRet (cK (.bool false))) bNil) bNil) (bCons (kRet (cCmp .Eq (cB g_law_told (lCons (cB g_t_prod (lCons (cLst (lCons (cV 0) (lCons (cV 1) lNil))) lNil)) (lCons (cK (.int 4)) lNil))) (cB g_law_cauchy (lCons (cV 2) (lCons (cV 3) lNil))))) bNil)))))
noncomputable def b_law_quotient_right (g_law_told g_law_cauchy : List D → R D) : B := (bCons (kAs 3 (cIf (tCmp .Eq (cIt (cV 2) (cK (.int 0))) (cTup (lCons (cK (.int 0)) (lCons (cK (.int 1)) lNil)))) (cK (.int 3)) (cK (.int 4)))) (bCons (kQ (cB g_law_told (lCons (cV 0) (lCons (cV 3) lNil)))) (bCons (kRet (cAnd (cCmp .Eq (cB bLen (lCons (cV 4) lNil)) (cV 3)) (cAnd (cOr (cCmp .Eq (cV 3) (cK (.int 4))) (cCmp .Eq (cIt (cV 1) (cK (.int 0))) (cTup (lCons (cK (.int 0)) (lCons (cK (.int 1)) lNil))))) (cCmp .Eq (cB g_law_cauchy (lCons (cV 4) (lCons (cV 2) lNil))) (cV 1))))) bNil)))
section
variable {G : Gl} {n : Nat}
set_option maxRecDepth 10000
set_option linter.unusedVariables false
theorem body_gcd (ok : G.OK) (c : Act) (L a : Addr) (cd : Value) (co : c.OK G n) (fr : Frm c (envOfC (Str.ofString (fnStr .gcd_)) (fScope (stAt 3)) L a cd) ([nm "a", nm "b"] ++ [])) :
    BSim G c (envOfC (Str.ofString (fnStr .gcd_)) (fScope (stAt 3)) L a cd) ([nm "a", nm "b"] ++ []) (fBody (stAt 3)) (b_gcd) :=
  (sim_bCons (sim_kMu co fr rfl rfl (by first | exact .inl rfl | exact .inr ⟨rfl, rfl⟩) (by first | exact .inl rfl | exact .inr ⟨rfl, rfl⟩) (simL_cons (sim_B (x := "abs") b_abs (.head _) how_builtin ⟨rfl, rfl, rfl⟩ ok co (simL_cons (sim_V 0 rfl ⟨rfl, rfl, rfl⟩ rfl rfl) simL_nil rfl) rfl rfl rfl rfl rfl) (simL_cons (sim_B (x := "abs") b_abs (.head _) how_builtin ⟨rfl, rfl, rfl⟩ ok co (simL_cons (sim_V 1 rfl ⟨rfl, rfl, rfl⟩ rfl rfl) simL_nil rfl) rfl rfl rfl rfl rfl) simL_nil rfl) rfl) rfl rfl)
    (sim_bCons (sim_kWh 200 (simT_Cmp co (sim_V 1 rfl ⟨rfl, rfl, rfl⟩ rfl rfl) sim_K_int rfl) (sim_bCons (sim_kMu co fr rfl rfl (by first | exact .inl rfl | exact .inr ⟨rfl, rfl⟩) (by first | exact .inl rfl | exact .inr ⟨rfl, rfl⟩) (simL_cons (sim_V 1 rfl ⟨rfl, rfl, rfl⟩ rfl rfl) (simL_cons (sim_Bin (sim_V 0 rfl ⟨rfl, rfl, rfl⟩ rfl rfl) (sim_V 1 rfl ⟨rfl, rfl, rfl⟩ rfl rfl)) simL_nil rfl) rfl) rfl rfl)
    sim_bNil))
    (sim_bCons (sim_kRet (sim_V 0 rfl ⟨rfl, rfl, rfl⟩ rfl rfl))
    sim_bNil)))
theorem spec_gcd (ok : G.OK) (fk : FlyOK G) (hd : DefAt G .gcd_ (fArgs (stAt 3)) (fBody (stAt 3)) (fScope (stAt 3))) : Spec G (n + 1) .gcd_ (fnD 2 0 (b_gcd)) :=
  spec_of (ps := [nm "a", nm "b"]) (locs := []) ok fk hd rfl rfl rfl (fun vs h => match vs, h with | [_, _], _ => fun _ _ _ _ => rfl) (by decide) (by decide) fun c L a cd _ co fr => body_gcd ok  c L a cd co fr
theorem body_bits_of (ok : G.OK) (c : Act) (L a : Addr) (cd : Value) (co : c.OK G n) (fr : Frm c (envOfC (Str.ofString (fnStr .bits_of_)) (fScope (stAt 4)) L a cd) ([nm "n"] ++ [nm "found", nm "many", nm "step"])) :
    BSim G c (envOfC (Str.ofString (fnStr .bits_of_)) (fScope (stAt 4)) L a cd) ([nm "n"] ++ [nm "found", nm "many", nm "step"]) (fBody (stAt 4)) (b_bits_of) :=
  (sim_bCons (sim_kAs fr rfl (by first | exact .inl rfl | exact .inr ⟨rfl, rfl⟩) sim_K_int rfl)
    (sim_bCons (sim_kFo co fr rfl (by first | exact .inl rfl | exact .inr ⟨rfl, rfl⟩) (simI_S co (sim_Tup (simL_cons sim_K_int (simL_cons sim_K_int (simL_cons sim_K_int simL_nil rfl) rfl) rfl))) (sim_bCons (sim_kAs fr rfl (by first | exact .inl rfl | exact .inr ⟨rfl, rfl⟩) (sim_Bin sim_K_int (sim_V 2 rfl ⟨rfl, rfl, rfl⟩ rfl rfl)) rfl)
    (sim_bCons (sim_kWh 70 (simT_Cmp co (sim_V 0 rfl ⟨rfl, rfl, rfl⟩ rfl rfl) (sim_V 3 rfl ⟨rfl, rfl, rfl⟩ rfl rfl) rfl) (sim_bCons (sim_kMu co fr rfl rfl (by first | exact .inl rfl | exact .inr ⟨rfl, rfl⟩) (by first | exact .inl rfl | exact .inr ⟨rfl, rfl⟩) (simL_cons (sim_Bin (sim_V 0 rfl ⟨rfl, rfl, rfl⟩ rfl rfl) (sim_V 3 rfl ⟨rfl, rfl, rfl⟩ rfl rfl)) (simL_cons (sim_Bin (sim_V 1 rfl ⟨rfl, rfl, rfl⟩ rfl rfl) (sim_V 2 rfl ⟨rfl, rfl, rfl⟩ rfl rfl)) simL_nil rfl) rfl) rfl rfl)
    sim_bNil))
    sim_bNil)) (fun _ => rfl))
    (sim_bCons (sim_kRet (sim_Bin (sim_V 1 rfl ⟨rfl, rfl, rfl⟩ rfl rfl) (sim_V 0 rfl ⟨rfl, rfl, rfl⟩ rfl rfl)))
    sim_bNil)))
theorem spec_bits_of (ok : G.OK) (fk : FlyOK G) (hd : DefAt G .bits_of_ (fArgs (stAt 4)) (fBody (stAt 4)) (fScope (stAt 4))) : Spec G (n + 1) .bits_of_ (fnD 1 3 (b_bits_of)) :=
  spec_of (ps := [nm "n"]) (locs := [nm "found", nm "many", nm "step"]) ok fk hd rfl rfl rfl (fun vs h => match vs, h with | [_], _ => fun _ _ _ _ => rfl) (by decide) (by decide) fun c L a cd _ co fr => body_bits_of ok  c L a cd co fr
theorem body_root_of {g_bits_of : List D → R D} (ok : G.OK) (h_bits_of : Spec G n .bits_of_ g_bits_of) (c : Act) (L a : Addr) (cd : Value) (co : c.OK G n) (fr : Frm c (envOfC (Str.ofString (fnStr .root_of_)) (fScope (stAt 5)) L a cd) ([nm "n", nm "k"] ++ [nm "low", nm "high", nm "middle"])) :
    BSim G c (envOfC (Str.ofString (fnStr .root_of_)) (fScope (stAt 5)) L a cd) ([nm "n", nm "k"] ++ [nm "low", nm "high", nm "middle"]) (fBody (stAt 5)) (b_root_of g_bits_of) :=
  (sim_bCons (sim_kIf (simT_Cmp co (sim_V 1 rfl ⟨rfl, rfl, rfl⟩ rfl rfl) (sim_C (fn := .bits_of_) rfl h_bits_of ⟨rfl, rfl, rfl⟩ ok co (simL_cons (sim_V 0 rfl ⟨rfl, rfl, rfl⟩ rfl rfl) simL_nil rfl) rfl rfl rfl rfl) rfl) (sim_bCons (sim_kRet (sim_B (x := "min") b_min (.tail _ (.tail _ (.head _))) how_builtin ⟨rfl, rfl, rfl⟩ ok co (simL_cons (sim_V 0 rfl ⟨rfl, rfl, rfl⟩ rfl rfl) (simL_cons sim_K_int simL_nil rfl) rfl) rfl rfl rfl rfl rfl))
    sim_bNil) sim_bNil)
    (sim_bCons (sim_kUn co fr rfl rfl (by first | exact .inl rfl | exact .inr ⟨rfl, rfl⟩) (by first | exact .inl rfl | exact .inr ⟨rfl, rfl⟩) (sim_Tup (simL_cons sim_K_int (simL_cons sim_K_int simL_nil rfl) rfl)) rfl rfl)
    (sim_bCons (sim_kWh 70 (simT_Cmp co (sim_Bin (sim_V 3 rfl ⟨rfl, rfl, rfl⟩ rfl rfl) (sim_V 1 rfl ⟨rfl, rfl, rfl⟩ rfl rfl)) (sim_V 0 rfl ⟨rfl, rfl, rfl⟩ rfl rfl) rfl) (sim_bCons (sim_kMu co fr rfl rfl (by first | exact .inl rfl | exact .inr ⟨rfl, rfl⟩) (by first | exact .inl rfl | exact .inr ⟨rfl, rfl⟩) (simL_cons (sim_V 3 rfl ⟨rfl, rfl, rfl⟩ rfl rfl) (simL_cons (sim_Bin sim_K_int (sim_V 3 rfl ⟨rfl, rfl, rfl⟩ rfl rfl)) simL_nil rfl) rfl) rfl rfl)
    sim_bNil))
    (sim_bCons (sim_kWh 70 (simT_Cmp co (sim_Bin (sim_V 3 rfl ⟨rfl, rfl, rfl⟩ rfl rfl) (sim_V 2 rfl ⟨rfl, rfl, rfl⟩ rfl rfl)) sim_K_int rfl) (sim_bCons (sim_kAs fr rfl (by first | exact .inl rfl | exact .inr ⟨rfl, rfl⟩) (sim_Bin (sim_Bin (sim_V 2 rfl ⟨rfl, rfl, rfl⟩ rfl rfl) (sim_V 3 rfl ⟨rfl, rfl, rfl⟩ rfl rfl)) sim_K_int) rfl)
    (sim_bCons (sim_kIf (simT_Cmp co (sim_Bin (sim_V 4 rfl ⟨rfl, rfl, rfl⟩ rfl rfl) (sim_V 1 rfl ⟨rfl, rfl, rfl⟩ rfl rfl)) (sim_V 0 rfl ⟨rfl, rfl, rfl⟩ rfl rfl) rfl) (sim_bCons (sim_kAs fr rfl (by first | exact .inl rfl | exact .inr ⟨rfl, rfl⟩) (sim_V 4 rfl ⟨rfl, rfl, rfl⟩ rfl rfl) rfl)
    sim_bNil) (sim_bCons (sim_kAs fr rfl (by first | exact .inl rfl | exact .inr ⟨rfl, rfl⟩) (sim_V 4 rfl ⟨rfl, rfl, rfl⟩ rfl rfl) rfl)
    sim_bNil))
    sim_bNil)))
    (sim_bCons (sim_kRet (sim_V 2 rfl ⟨rfl, rfl, rfl⟩ rfl rfl))
    sim_bNil)))))
theorem spec_root_of {g_bits_of : List D → R D} (ok : G.OK) (fk : FlyOK G) (hd : DefAt G .root_of_ (fArgs (stAt 5)) (fBody (stAt 5)) (fScope (stAt 5))) (h_bits_of : Spec G n .bits_of_ g_bits_of) : Spec G (n + 1) .root_of_ (fnD 2 3 (b_root_of g_bits_of)) :=
  spec_of (ps := [nm "n", nm "k"]) (locs := [nm "low", nm "high", nm "middle"]) ok fk hd rfl rfl rfl (fun vs h => match vs, h with | [_, _], _ => fun _ _ _ _ => rfl) (by decide) (by decide) fun c L a cd _ co fr => body_root_of ok h_bits_of c L a cd co fr
theorem body_rat {g_gcd : List D → R D} (ok : G.OK) (h_gcd : Spec G n .gcd_ g_gcd) (c : Act) (L a : Addr) (cd : Value) (co : c.OK G n) (fr : Frm c (envOfC (Str.ofString (fnStr .rat_)) (fScope (stAt 10)) L a cd) ([nm "top", nm "bottom"] ++ [nm "g"])) :
    BSim G c (envOfC (Str.ofString (fnStr .rat_)) (fScope (stAt 10)) L a cd) ([nm "top", nm "bottom"] ++ [nm "g"]) (fBody (stAt 10)) (b_rat g_gcd) :=
  (sim_bCons (sim_kIf (simT_Cmp co (sim_V 1 rfl ⟨rfl, rfl, rfl⟩ rfl rfl) sim_K_int rfl) (sim_bCons sim_kNo
    sim_bNil) sim_bNil)
    (sim_bCons (sim_kAs fr rfl (by first | exact .inl rfl | exact .inr ⟨rfl, rfl⟩) (sim_If (simT_Cmp co (sim_V 1 rfl ⟨rfl, rfl, rfl⟩ rfl rfl) sim_K_int rfl) (sim_C (fn := .gcd_) rfl h_gcd ⟨rfl, rfl, rfl⟩ ok co (simL_cons (sim_V 0 rfl ⟨rfl, rfl, rfl⟩ rfl rfl) (simL_cons (sim_V 1 rfl ⟨rfl, rfl, rfl⟩ rfl rfl) simL_nil rfl) rfl) rfl rfl rfl rfl) (sim_Bin sim_K_int (sim_C (fn := .gcd_) rfl h_gcd ⟨rfl, rfl, rfl⟩ ok co (simL_cons (sim_V 0 rfl ⟨rfl, rfl, rfl⟩ rfl rfl) (simL_cons (sim_V 1 rfl ⟨rfl, rfl, rfl⟩ rfl rfl) simL_nil rfl) rfl) rfl rfl rfl rfl))) rfl)
    (sim_bCons (sim_kRet (sim_Tup (simL_cons (sim_Bin (sim_V 0 rfl ⟨rfl, rfl, rfl⟩ rfl rfl) (sim_V 2 rfl ⟨rfl, rfl, rfl⟩ rfl rfl)) (simL_cons (sim_Bin (sim_V 1 rfl ⟨rfl, rfl, rfl⟩ rfl rfl) (sim_V 2 rfl ⟨rfl, rfl, rfl⟩ rfl rfl)) simL_nil rfl) rfl)))
    sim_bNil)))
theorem spec_rat {g_gcd : List D → R D} (ok : G.OK) (fk : FlyOK G) (hd : DefAt G .rat_ (fArgs (stAt 10)) (fBody (stAt 10)) (fScope (stAt 10))) (h_gcd : Spec G n .gcd_ g_gcd) : Spec G (n + 1) .rat_ (fnD 2 1 (b_rat g_gcd)) :=
  spec_of (ps := [nm "top", nm "bottom"]) (locs := [nm "g"]) ok fk hd rfl rfl rfl (fun vs h => match vs, h with | [_, _], _ => fun _ _ _ _ => rfl) (by decide) (by decide) fun c L a cd _ co fr => body_rat ok h_gcd c L a cd co fr
theorem body_radd {g_rat : List D → R D} (ok : G.OK) (h_rat : Spec G n .rat_ g_rat) (c : Act) (L a : Addr) (cd : Value) (co : c.OK G n) (fr : Frm c (envOfC (Str.ofString (fnStr .radd_)) (fScope (stAt 11)) L a cd) ([nm "a", nm "b"] ++ [])) :
    BSim G c (envOfC (Str.ofString (fnStr .radd_)) (fScope (stAt 11)) L a cd) ([nm "a", nm "b"] ++ []) (fBody (stAt 11)) (b_radd g_rat) :=
  (sim_bCons (sim_kRet (sim_C (fn := .rat_) rfl h_rat ⟨rfl, rfl, rfl⟩ ok co (simL_cons (sim_Bin (sim_Bin (sim_It (sim_V 0 rfl ⟨rfl, rfl, rfl⟩ rfl rfl) sim_K_int (fun _ _ => ⟨_, rfl⟩)) (sim_It (sim_V 1 rfl ⟨rfl, rfl, rfl⟩ rfl rfl) sim_K_int (fun _ _ => ⟨_, rfl⟩))) (sim_Bin (sim_It (sim_V 1 rfl ⟨rfl, rfl, rfl⟩ rfl rfl) sim_K_int (fun _ _ => ⟨_, rfl⟩)) (sim_It (sim_V 0 rfl ⟨rfl, rfl, rfl⟩ rfl rfl) sim_K_int (fun _ _ => ⟨_, rfl⟩)))) (simL_cons (sim_Bin (sim_It (sim_V 0 rfl ⟨rfl, rfl, rfl⟩ rfl rfl) sim_K_int (fun _ _ => ⟨_, rfl⟩)) (sim_It (sim_V 1 rfl ⟨rfl, rfl, rfl⟩ rfl rfl) sim_K_int (fun _ _ => ⟨_, rfl⟩))) simL_nil rfl) rfl) rfl rfl rfl rfl))
    sim_bNil)
theorem spec_radd {g_rat : List D → R D} (ok : G.OK) (fk : FlyOK G) (hd : DefAt G .radd_ (fArgs (stAt 11)) (fBody (stAt 11)) (fScope (stAt 11))) (h_rat : Spec G n .rat_ g_rat) : Spec G (n + 1) .radd_ (fnD 2 0 (b_radd g_rat)) :=
  spec_of (ps := [nm "a", nm "b"]) (locs := []) ok fk hd rfl rfl rfl (fun vs h => match vs, h with | [_, _], _ => fun _ _ _ _ => rfl) (by decide) (by decide) fun c L a cd _ co fr => body_radd ok h_rat c L a cd co fr
theorem body_rsub {g_rat : List D → R D} (ok : G.OK) (h_rat : Spec G n .rat_ g_rat) (c : Act) (L a : Addr) (cd : Value) (co : c.OK G n) (fr : Frm c (envOfC (Str.ofString (fnStr .rsub_)) (fScope (stAt 12)) L a cd) ([nm "a", nm "b"] ++ [])) :
    BSim G c (envOfC (Str.ofString (fnStr .rsub_)) (fScope (stAt 12)) L a cd) ([nm "a", nm "b"] ++ []) (fBody (stAt 12)) (b_rsub g_rat) :=
  (sim_bCons (sim_kRet (sim_C (fn := .rat_) rfl h_rat ⟨rfl, rfl, rfl⟩ ok co (simL_cons (sim_Bin (sim_Bin (sim_It (sim_V 0 rfl ⟨rfl, rfl, rfl⟩ rfl rfl) sim_K_int (fun _ _ => ⟨_, rfl⟩)) (sim_It (sim_V 1 rfl ⟨rfl, rfl, rfl⟩ rfl rfl) sim_K_int (fun _ _ => ⟨_, rfl⟩))) (sim_Bin (sim_It (sim_V 1 rfl ⟨rfl, rfl, rfl⟩ rfl rfl) sim_K_int (fun _ _ => ⟨_, rfl⟩)) (sim_It (sim_V 0 rfl ⟨rfl, rfl, rfl⟩ rfl rfl) sim_K_int (fun _ _ => ⟨_, rfl⟩)))) (simL_cons (sim_Bin (sim_It (sim_V 0 rfl ⟨rfl, rfl, rfl⟩ rfl rfl) sim_K_int (fun _ _ => ⟨_, rfl⟩)) (sim_It (sim_V 1 rfl ⟨rfl, rfl, rfl⟩ rfl rfl) sim_K_int (fun _ _ => ⟨_, rfl⟩))) simL_nil rfl) rfl) rfl rfl rfl rfl))
    sim_bNil)
theorem spec_rsub {g_rat : List D → R D} (ok : G.OK) (fk : FlyOK G) (hd : DefAt G .rsub_ (fArgs (stAt 12)) (fBody (stAt 12)) (fScope (stAt 12))) (h_rat : Spec G n .rat_ g_rat) : Spec G (n + 1) .rsub_ (fnD 2 0 (b_rsub g_rat)) :=
  spec_of (ps := [nm "a", nm "b"]) (locs := []) ok fk hd rfl rfl rfl (fun vs h => match vs, h with | [_, _], _ => fun _ _ _ _ => rfl) (by decide) (by decide) fun c L a cd _ co fr => body_rsub ok h_rat c L a cd co fr
theorem body_rmul {g_rat : List D → R D} (ok : G.OK) (h_rat : Spec G n .rat_ g_rat) (c : Act) (L a : Addr) (cd : Value) (co : c.OK G n) (fr : Frm c (envOfC (Str.ofString (fnStr .rmul_)) (fScope (stAt 13)) L a cd) ([nm "a", nm "b"] ++ [])) :
    BSim G c (envOfC (Str.ofString (fnStr .rmul_)) (fScope (stAt 13)) L a cd) ([nm "a", nm "b"] ++ []) (fBody (stAt 13)) (b_rmul g_rat) :=
  (sim_bCons (sim_kRet (sim_C (fn := .rat_) rfl h_rat ⟨rfl, rfl, rfl⟩ ok co (simL_cons (sim_Bin (sim_It (sim_V 0 rfl ⟨rfl, rfl, rfl⟩ rfl rfl) sim_K_int (fun _ _ => ⟨_, rfl⟩)) (sim_It (sim_V 1 rfl ⟨rfl, rfl, rfl⟩ rfl rfl) sim_K_int (fun _ _ => ⟨_, rfl⟩))) (simL_cons (sim_Bin (sim_It (sim_V 0 rfl ⟨rfl, rfl, rfl⟩ rfl rfl) sim_K_int (fun _ _ => ⟨_, rfl⟩)) (sim_It (sim_V 1 rfl ⟨rfl, rfl, rfl⟩ rfl rfl) sim_K_int (fun _ _ => ⟨_, rfl⟩))) simL_nil rfl) rfl) rfl rfl rfl rfl))
    sim_bNil)
theorem spec_rmul {g_rat : List D → R D} (ok : G.OK) (fk : FlyOK G) (hd : DefAt G .rmul_ (fArgs (stAt 13)) (fBody (stAt 13)) (fScope (stAt 13))) (h_rat : Spec G n .rat_ g_rat) : Spec G (n + 1) .rmul_ (fnD 2 0 (b_rmul g_rat)) :=
  spec_of (ps := [nm "a", nm "b"]) (locs := []) ok fk hd rfl rfl rfl (fun vs h => match vs, h with | [_, _], _ => fun _ _ _ _ => rfl) (by decide) (by decide) fun c L a cd _ co fr => body_rmul ok h_rat c L a cd co fr
theorem body_rdiv {g_rat : List D → R D} (ok : G.OK) (h_rat : Spec G n .rat_ g_rat) (c : Act) (L a : Addr) (cd : Value) (co : c.OK G n) (fr : Frm c (envOfC (Str.ofString (fnStr .rdiv_)) (fScope (stAt 14)) L a cd) ([nm "a", nm "b"] ++ [])) :
    BSim G c (envOfC (Str.ofString (fnStr .rdiv_)) (fScope (stAt 14)) L a cd) ([nm "a", nm "b"] ++ []) (fBody (stAt 14)) (b_rdiv g_rat) :=
  (sim_bCons (sim_kRet (sim_C (fn := .rat_) rfl h_rat ⟨rfl, rfl, rfl⟩ ok co (simL_cons (sim_Bin (sim_It (sim_V 0 rfl ⟨rfl, rfl, rfl⟩ rfl rfl) sim_K_int (fun _ _ => ⟨_, rfl⟩)) (sim_It (sim_V 1 rfl ⟨rfl, rfl, rfl⟩ rfl rfl) sim_K_int (fun _ _ => ⟨_, rfl⟩))) (simL_cons (sim_Bin (sim_It (sim_V 0 rfl ⟨rfl, rfl, rfl⟩ rfl rfl) sim_K_int (fun _ _ => ⟨_, rfl⟩)) (sim_It (sim_V 1 rfl ⟨rfl, rfl, rfl⟩ rfl rfl) sim_K_int (fun _ _ => ⟨_, rfl⟩))) simL_nil rfl) rfl) rfl rfl rfl rfl))
    sim_bNil)
theorem spec_rdiv {g_rat : List D → R D} (ok : G.OK) (fk : FlyOK G) (hd : DefAt G .rdiv_ (fArgs (stAt 14)) (fBody (stAt 14)) (fScope (stAt 14))) (h_rat : Spec G n .rat_ g_rat) : Spec G (n + 1) .rdiv_ (fnD 2 0 (b_rdiv g_rat)) :=
  spec_of (ps := [nm "a", nm "b"]) (locs := []) ok fk hd rfl rfl rfl (fun vs h => match vs, h with | [_, _], _ => fun _ _ _ _ => rfl) (by decide) (by decide) fun c L a cd _ co fr => body_rdiv ok h_rat c L a cd co fr
theorem body_rpower {g_bits_of : List D → R D} (ok : G.OK) (h_bits_of : Spec G n .bits_of_ g_bits_of) (c : Act) (L a : Addr) (cd : Value) (co : c.OK G n) (fr : Frm c (envOfC (Str.ofString (fnStr .rpower_)) (fScope (stAt 16)) L a cd) ([nm "a", nm "n"] ++ [nm "greatest"])) :
    BSim G c (envOfC (Str.ofString (fnStr .rpower_)) (fScope (stAt 16)) L a cd) ([nm "a", nm "n"] ++ [nm "greatest"]) (fBody (stAt 16)) (b_rpower g_bits_of) :=
  (sim_bCons (sim_kIf (simT_Cmp co (sim_V 1 rfl ⟨rfl, rfl, rfl⟩ rfl rfl) sim_K_int rfl) (sim_bCons (sim_kMu co fr rfl rfl (by first | exact .inl rfl | exact .inr ⟨rfl, rfl⟩) (by first | exact .inl rfl | exact .inr ⟨rfl, rfl⟩) (simL_cons sim_cX (simL_cons (sim_Bin sim_K_int (sim_V 1 rfl ⟨rfl, rfl, rfl⟩ rfl rfl)) simL_nil rfl) rfl) rfl rfl)
    sim_bNil) sim_bNil)
    (sim_bCons (sim_kAs fr rfl (by first | exact .inl rfl | exact .inr ⟨rfl, rfl⟩) (sim_B (x := "max") b_max (.tail _ (.tail _ (.tail _ (.head _)))) how_builtin ⟨rfl, rfl, rfl⟩ ok co (simL_cons (sim_B (x := "abs") b_abs (.head _) how_builtin ⟨rfl, rfl, rfl⟩ ok co (simL_cons (sim_It (sim_V 0 rfl ⟨rfl, rfl, rfl⟩ rfl rfl) sim_K_int (fun _ _ => ⟨_, rfl⟩)) simL_nil rfl) rfl rfl rfl rfl rfl) (simL_cons (sim_It (sim_V 0 rfl ⟨rfl, rfl, rfl⟩ rfl rfl) sim_K_int (fun _ _ => ⟨_, rfl⟩)) simL_nil rfl) rfl) rfl rfl rfl rfl rfl) rfl)
    (sim_bCons (sim_kIf (simT_And (simT_Cmp co (sim_V 1 rfl ⟨rfl, rfl, rfl⟩ rfl rfl) sim_K_int rfl) (simT_And (simT_Cmp co (sim_V 2 rfl ⟨rfl, rfl, rfl⟩ rfl rfl) sim_K_int rfl) (simT_And (simT_Cmp co (sim_Bin (sim_V 1 rfl ⟨rfl, rfl, rfl⟩ rfl rfl) (sim_C (fn := .bits_of_) rfl h_bits_of ⟨rfl, rfl, rfl⟩ ok co (simL_cons (sim_V 2 rfl ⟨rfl, rfl, rfl⟩ rfl rfl) simL_nil rfl) rfl rfl rfl rfl)) (sim_G ⟨rfl, rfl, rfl⟩ ok co (x := "MOST_BITS") (.tail _ (.tail _ (.head _))) rfl rfl) rfl) simT_AndNil))) (sim_bCons sim_kNo
    sim_bNil) sim_bNil)
    (sim_bCons (sim_kRet (sim_Tup (simL_cons (sim_Bin (sim_It (sim_V 0 rfl ⟨rfl, rfl, rfl⟩ rfl rfl) sim_K_int (fun _ _ => ⟨_, rfl⟩)) (sim_V 1 rfl ⟨rfl, rfl, rfl⟩ rfl rfl)) (simL_cons (sim_Bin (sim_It (sim_V 0 rfl ⟨rfl, rfl, rfl⟩ rfl rfl) sim_K_int (fun _ _ => ⟨_, rfl⟩)) (sim_V 1 rfl ⟨rfl, rfl, rfl⟩ rfl rfl)) simL_nil rfl) rfl)))
    sim_bNil))))
theorem spec_rpower {g_bits_of : List D → R D} (ok : G.OK) (fk : FlyOK G) (hd : DefAt G .rpower_ (fArgs (stAt 16)) (fBody (stAt 16)) (fScope (stAt 16))) (h_bits_of : Spec G n .bits_of_ g_bits_of) : Spec G (n + 1) .rpower_ (fnD 2 1 (b_rpower g_bits_of)) :=
  spec_of (ps := [nm "a", nm "n"]) (locs := [nm "greatest"]) ok fk hd rfl rfl rfl (fun vs h => match vs, h with | [_, _], _ => fun _ _ _ _ => rfl) (by decide) (by decide) fun c L a cd _ co fr => body_rpower ok h_bits_of c L a cd co fr
theorem body_is_vast {g_bits_of : List D → R D} (ok : G.OK) (h_bits_of : Spec G n .bits_of_ g_bits_of) (c : Act) (L a : Addr) (cd : Value) (co : c.OK G n) (fr : Frm c (envOfC (Str.ofString (fnStr .is_vast_)) (fScope (stAt 17)) L a cd) ([nm "a"] ++ [nm "greatest"])) :
    BSim G c (envOfC (Str.ofString (fnStr .is_vast_)) (fScope (stAt 17)) L a cd) ([nm "a"] ++ [nm "greatest"]) (fBody (stAt 17)) (b_is_vast g_bits_of) :=
  (sim_bCons (sim_kAs fr rfl (by first | exact .inl rfl | exact .inr ⟨rfl, rfl⟩) (sim_B (x := "max") b_max (.tail _ (.tail _ (.tail _ (.head _)))) how_builtin ⟨rfl, rfl, rfl⟩ ok co (simL_cons (sim_B (x := "abs") b_abs (.head _) how_builtin ⟨rfl, rfl, rfl⟩ ok co (simL_cons (sim_It (sim_V 0 rfl ⟨rfl, rfl, rfl⟩ rfl rfl) sim_K_int (fun _ _ => ⟨_, rfl⟩)) simL_nil rfl) rfl rfl rfl rfl rfl) (simL_cons (sim_It (sim_V 0 rfl ⟨rfl, rfl, rfl⟩ rfl rfl) sim_K_int (fun _ _ => ⟨_, rfl⟩)) simL_nil rfl) rfl) rfl rfl rfl rfl rfl) rfl)
    (sim_bCons (sim_kRet (sim_And (sim_Cmp co (sim_V 1 rfl ⟨rfl, rfl, rfl⟩ rfl rfl) (sim_Bin sim_K_int sim_K_int) rfl) (sim_BoolOne (sim_Cmp co (sim_C (fn := .bits_of_) rfl h_bits_of ⟨rfl, rfl, rfl⟩ ok co (simL_cons (sim_V 1 rfl ⟨rfl, rfl, rfl⟩ rfl rfl) simL_nil rfl) rfl rfl rfl rfl) (sim_G ⟨rfl, rfl, rfl⟩ ok co (x := "MOST_BITS") (.tail _ (.tail _ (.head _))) rfl rfl) rfl))))
    sim_bNil))
theorem spec_is_vast {g_bits_of : List D → R D} (ok : G.OK) (fk : FlyOK G) (hd : DefAt G .is_vast_ (fArgs (stAt 17)) (fBody (stAt 17)) (fScope (stAt 17))) (h_bits_of : Spec G n .bits_of_ g_bits_of) : Spec G (n + 1) .is_vast_ (fnD 1 1 (b_is_vast g_bits_of)) :=
  spec_of (ps := [nm "a"]) (locs := [nm "greatest"]) ok fk hd rfl rfl rfl (fun vs h => match vs, h with | [_], _ => fun _ _ _ _ => rfl) (by decide) (by decide) fun c L a cd _ co fr => body_is_vast ok h_bits_of c L a cd co fr
theorem body_rcompare (ok : G.OK) (c : Act) (L a : Addr) (cd : Value) (co : c.OK G n) (fr : Frm c (envOfC (Str.ofString (fnStr .rcompare_)) (fScope (stAt 18)) L a cd) ([nm "a", nm "b"] ++ [nm "off"])) :
    BSim G c (envOfC (Str.ofString (fnStr .rcompare_)) (fScope (stAt 18)) L a cd) ([nm "a", nm "b"] ++ [nm "off"]) (fBody (stAt 18)) (b_rcompare) :=
  (sim_bCons (sim_kAs fr rfl (by first | exact .inl rfl | exact .inr ⟨rfl, rfl⟩) (sim_Bin (sim_Bin (sim_It (sim_V 0 rfl ⟨rfl, rfl, rfl⟩ rfl rfl) sim_K_int (fun _ _ => ⟨_, rfl⟩)) (sim_It (sim_V 1 rfl ⟨rfl, rfl, rfl⟩ rfl rfl) sim_K_int (fun _ _ => ⟨_, rfl⟩))) (sim_Bin (sim_It (sim_V 1 rfl ⟨rfl, rfl, rfl⟩ rfl rfl) sim_K_int (fun _ _ => ⟨_, rfl⟩)) (sim_It (sim_V 0 rfl ⟨rfl, rfl, rfl⟩ rfl rfl) sim_K_int (fun _ _ => ⟨_, rfl⟩)))) rfl)
    (sim_bCons (sim_kRet (sim_Bin (sim_Cmp co (sim_V 2 rfl ⟨rfl, rfl, rfl⟩ rfl rfl) sim_K_int rfl) (sim_Cmp co (sim_V 2 rfl ⟨rfl, rfl, rfl⟩ rfl rfl) sim_K_int rfl)))
    sim_bNil))
theorem spec_rcompare (ok : G.OK) (fk : FlyOK G) (hd : DefAt G .rcompare_ (fArgs (stAt 18)) (fBody (stAt 18)) (fScope (stAt 18))) : Spec G (n + 1) .rcompare_ (fnD 2 1 (b_rcompare)) :=
  spec_of (ps := [nm "a", nm "b"]) (locs := [nm "off"]) ok fk hd rfl rfl rfl (fun vs h => match vs, h with | [_, _], _ => fun _ _ _ _ => rfl) (by decide) (by decide) fun c L a cd _ co fr => body_rcompare ok  c L a cd co fr
theorem body_cut (ok : G.OK) (c : Act) (L a : Addr) (cd : Value) (co : c.OK G n) (fr : Frm c (envOfC (Str.ofString (fnStr .cut_)) (fScope (stAt 20)) L a cd) ([nm "a", nm "order"] ++ [])) :
    BSim G c (envOfC (Str.ofString (fnStr .cut_)) (fScope (stAt 20)) L a cd) ([nm "a", nm "order"] ++ []) (fBody (stAt 20)) (b_cut) :=
  (sim_bCons (sim_kRet (sim_Bin (sim_B (x := "list") b_list (.tail _ (.tail _ (.tail _ (.tail _ (.tail _ (.head _)))))) how_type ⟨rfl, rfl, rfl⟩ ok co (simL_cons (sim_SlTo (sim_V 0 rfl ⟨rfl, rfl, rfl⟩ rfl rfl) (sim_V 1 rfl ⟨rfl, rfl, rfl⟩ rfl rfl) (fun _ _ => ⟨_, rfl⟩)) simL_nil rfl) rfl rfl rfl rfl rfl) (sim_Bin (sim_Lst (simL_cons (sim_G ⟨rfl, rfl, rfl⟩ ok co (x := "R0") (.head _) rfl rfl) simL_nil rfl)) (sim_Bin (sim_V 1 rfl ⟨rfl, rfl, rfl⟩ rfl rfl) (sim_B (x := "len") b_len (.tail _ (.head _)) how_builtin ⟨rfl, rfl, rfl⟩ ok co (simL_cons (sim_V 0 rfl ⟨rfl, rfl, rfl⟩ rfl rfl) simL_nil rfl) rfl rfl rfl rfl rfl)))))
    sim_bNil)
theorem spec_cut (ok : G.OK) (fk : FlyOK G) (hd : DefAt G .cut_ (fArgs (stAt 20)) (fBody (stAt 20)) (fScope (stAt 20))) : Spec G (n + 1) .cut_ (fnD 2 0 (b_cut)) :=
  spec_of (ps := [nm "a", nm "order"]) (locs := []) ok fk hd rfl rfl rfl (fun vs h => match vs, h with | [_, _], _ => fun _ _ _ _ => rfl) (by decide) (by decide) fun c L a cd _ co fr => body_cut ok  c L a cd co fr
theorem body_let {g_is_vast : List D → R D} (ok : G.OK) (h_is_vast : Spec G n .is_vast_ g_is_vast) (c : Act) (L a : Addr) (cd : Value) (co : c.OK G n) (fr : Frm c (envOfC (Str.ofString (fnStr .let_)) (fScope (stAt 21)) L a cd) ([nm "number"] ++ [])) :
    BSim G c (envOfC (Str.ofString (fnStr .let_)) (fScope (stAt 21)) L a cd) ([nm "number"] ++ []) (fBody (stAt 21)) (b_let g_is_vast) :=
  (sim_bCons (sim_kIf (sim_tV (sim_C (fn := .is_vast_) rfl h_is_vast ⟨rfl, rfl, rfl⟩ ok co (simL_cons (sim_V 0 rfl ⟨rfl, rfl, rfl⟩ rfl rfl) simL_nil rfl) rfl rfl rfl rfl) (fun _ => rfl)) (sim_bCons sim_kNo
    sim_bNil) sim_bNil)
    (sim_bCons (sim_kRet (sim_V 0 rfl ⟨rfl, rfl, rfl⟩ rfl rfl))
    sim_bNil))
theorem spec_let {g_is_vast : List D → R D} (ok : G.OK) (fk : FlyOK G) (hd : DefAt G .let_ (fArgs (stAt 21)) (fBody (stAt 21)) (fScope (stAt 21))) (h_is_vast : Spec G n .is_vast_ g_is_vast) : Spec G (n + 1) .let_ (fnD 1 0 (b_let g_is_vast)) :=
  spec_of (ps := [nm "number"]) (locs := []) ok fk hd rfl rfl rfl (fun vs h => match vs, h with | [_], _ => fun _ _ _ _ => rfl) (by decide) (by decide) fun c L a cd _ co fr => body_let ok h_is_vast c L a cd co fr
theorem body_sadd {g_radd : List D → R D} (ok : G.OK) (h_radd : Spec G n .radd_ g_radd) (c : Act) (L a : Addr) (cd : Value) (co : c.OK G n) (fr : Frm c (envOfC (Str.ofString (fnStr .sadd_)) (fScope (stAt 22)) L a cd) ([nm "a", nm "b"] ++ [])) :
    BSim G c (envOfC (Str.ofString (fnStr .sadd_)) (fScope (stAt 22)) L a cd) ([nm "a", nm "b"] ++ []) (fBody (stAt 22)) (b_sadd g_radd) :=
  (sim_bCons (sim_kRet (sim_cComp co (xs := [nm "at"]) (ys := [nm "a", nm "b"]) (fun _ => rfl) rfl (by decide) (by decide) rfl (by decide) ⟨⟨rfl, rfl, (by first | exact .inl rfl | exact .inr rfl), (by first | exact .inl rfl | exact .inr rfl)⟩, ⟨⟨rfl, rfl, (by first | exact .inl rfl | exact .inr rfl), (by first | exact .inl rfl | exact .inr rfl)⟩, trivial⟩⟩ (cs_one (simI_R ⟨rfl, rfl, rfl⟩ ok co (fun _ _ => rfl) (simL_cons (sim_B (x := "min") b_min (.tail _ (.tail _ (.head _))) how_builtin ⟨rfl, rfl, rfl⟩ ok co (simL_cons (sim_B (x := "len") b_len (.tail _ (.head _)) how_builtin ⟨rfl, rfl, rfl⟩ ok co (simL_cons (sim_V 0 rfl ⟨rfl, rfl, rfl⟩ rfl rfl) simL_nil rfl) rfl rfl rfl rfl rfl) (simL_cons (sim_B (x := "len") b_len (.tail _ (.head _)) how_builtin ⟨rfl, rfl, rfl⟩ ok co (simL_cons (sim_V 1 rfl ⟨rfl, rfl, rfl⟩ rfl rfl) simL_nil rfl) rfl rfl rfl rfl rfl) simL_nil rfl) rfl) rfl rfl rfl rfl rfl) simL_nil rfl) rfl rfl rfl rfl rfl) rfl rfl) (fun C => (sim_C (fn := .radd_) rfl h_radd ⟨rfl, rfl, rfl⟩ ok co (simL_cons (sim_It (sim_V 1 rfl ⟨rfl, rfl, rfl⟩ rfl rfl) (sim_V 0 rfl ⟨rfl, rfl, rfl⟩ rfl rfl) (fun _ _ => ⟨_, rfl⟩)) (simL_cons (sim_It (sim_V 2 rfl ⟨rfl, rfl, rfl⟩ rfl rfl) (sim_V 0 rfl ⟨rfl, rfl, rfl⟩ rfl rfl) (fun _ _ => ⟨_, rfl⟩)) simL_nil rfl) rfl) rfl rfl rfl rfl))))
    sim_bNil)
theorem spec_sadd {g_radd : List D → R D} (ok : G.OK) (fk : FlyOK G) (hd : DefAt G .sadd_ (fArgs (stAt 22)) (fBody (stAt 22)) (fScope (stAt 22))) (h_radd : Spec G n .radd_ g_radd) : Spec G (n + 1) .sadd_ (fnD 2 0 (b_sadd g_radd)) :=
  spec_of (ps := [nm "a", nm "b"]) (locs := []) ok fk hd rfl rfl rfl (fun vs h => match vs, h with | [_, _], _ => fun _ _ _ _ => rfl) (by decide) (by decide) fun c L a cd _ co fr => body_sadd ok h_radd c L a cd co fr
theorem body_sscale {g_rmul : List D → R D} (ok : G.OK) (h_rmul : Spec G n .rmul_ g_rmul) (c : Act) (L a : Addr) (cd : Value) (co : c.OK G n) (fr : Frm c (envOfC (Str.ofString (fnStr .sscale_)) (fScope (stAt 23)) L a cd) ([nm "number", nm "a"] ++ [])) :
    BSim G c (envOfC (Str.ofString (fnStr .sscale_)) (fScope (stAt 23)) L a cd) ([nm "number", nm "a"] ++ []) (fBody (stAt 23)) (b_sscale g_rmul) :=
  (sim_bCons (sim_kRet (sim_cComp co (xs := [nm "one"]) (ys := [nm "number"]) (fun _ => rfl) rfl (by decide) (by decide) rfl (by decide) ⟨⟨rfl, rfl, (by first | exact .inl rfl | exact .inr rfl), (by first | exact .inl rfl | exact .inr rfl)⟩, trivial⟩ (cs_one (simI_S co (sim_V 1 rfl ⟨rfl, rfl, rfl⟩ rfl rfl)) rfl rfl) (fun C => (sim_C (fn := .rmul_) rfl h_rmul ⟨rfl, rfl, rfl⟩ ok co (simL_cons (sim_V 1 rfl ⟨rfl, rfl, rfl⟩ rfl rfl) (simL_cons (sim_V 0 rfl ⟨rfl, rfl, rfl⟩ rfl rfl) simL_nil rfl) rfl) rfl rfl rfl rfl))))
    sim_bNil)
theorem spec_sscale {g_rmul : List D → R D} (ok : G.OK) (fk : FlyOK G) (hd : DefAt G .sscale_ (fArgs (stAt 23)) (fBody (stAt 23)) (fScope (stAt 23))) (h_rmul : Spec G n .rmul_ g_rmul) : Spec G (n + 1) .sscale_ (fnD 2 0 (b_sscale g_rmul)) :=
  spec_of (ps := [nm "number", nm "a"]) (locs := []) ok fk hd rfl rfl rfl (fun vs h => match vs, h with | [_, _], _ => fun _ _ _ _ => rfl) (by decide) (by decide) fun c L a cd _ co fr => body_sscale ok h_rmul c L a cd co fr
theorem body_mixed {g_radd g_rmul : List D → R D} (ok : G.OK) (h_radd : Spec G n .radd_ g_radd) (h_rmul : Spec G n .rmul_ g_rmul) (c : Act) (L a : Addr) (cd : Value) (co : c.OK G n) (fr : Frm c (envOfC (Str.ofString (fnStr .mixed_)) (fScope (stAt 24)) L a cd) ([nm "a", nm "b", nm "at"] ++ [nm "found", nm "spot"])) :
    BSim G c (envOfC (Str.ofString (fnStr .mixed_)) (fScope (stAt 24)) L a cd) ([nm "a", nm "b", nm "at"] ++ [nm "found", nm "spot"]) (fBody (stAt 24)) (b_mixed g_radd g_rmul) :=
  (sim_bCons (sim_kAs fr rfl (by first | exact .inl rfl | exact .inr ⟨rfl, rfl⟩) (sim_G ⟨rfl, rfl, rfl⟩ ok co (x := "R0") (.head _) rfl rfl) rfl)
    (sim_bCons (sim_kFo co fr rfl (by first | exact .inl rfl | exact .inr ⟨rfl, rfl⟩) (simI_R ⟨rfl, rfl, rfl⟩ ok co (fun _ _ => rfl) (simL_cons (sim_Bin (sim_V 2 rfl ⟨rfl, rfl, rfl⟩ rfl rfl) sim_K_int) simL_nil rfl) rfl rfl rfl rfl rfl) (sim_bCons (sim_kIf (simT_And (simT_Cmp co (sim_It (sim_V 0 rfl ⟨rfl, rfl, rfl⟩ rfl rfl) (sim_V 4 rfl ⟨rfl, rfl, rfl⟩ rfl rfl) (fun _ _ => ⟨_, rfl⟩)) (sim_G ⟨rfl, rfl, rfl⟩ ok co (x := "R0") (.head _) rfl rfl) rfl) (simT_And (simT_Cmp co (sim_It (sim_V 1 rfl ⟨rfl, rfl, rfl⟩ rfl rfl) (sim_Bin (sim_V 2 rfl ⟨rfl, rfl, rfl⟩ rfl rfl) (sim_V 4 rfl ⟨rfl, rfl, rfl⟩ rfl rfl)) (fun _ _ => ⟨_, rfl⟩)) (sim_G ⟨rfl, rfl, rfl⟩ ok co (x := "R0") (.head _) rfl rfl) rfl) simT_AndNil)) (sim_bCons (sim_kAs fr rfl (by first | exact .inl rfl | exact .inr ⟨rfl, rfl⟩) (sim_C (fn := .radd_) rfl h_radd ⟨rfl, rfl, rfl⟩ ok co (simL_cons (sim_V 3 rfl ⟨rfl, rfl, rfl⟩ rfl rfl) (simL_cons (sim_C (fn := .rmul_) rfl h_rmul ⟨rfl, rfl, rfl⟩ ok co (simL_cons (sim_It (sim_V 0 rfl ⟨rfl, rfl, rfl⟩ rfl rfl) (sim_V 4 rfl ⟨rfl, rfl, rfl⟩ rfl rfl) (fun _ _ => ⟨_, rfl⟩)) (simL_cons (sim_It (sim_V 1 rfl ⟨rfl, rfl, rfl⟩ rfl rfl) (sim_Bin (sim_V 2 rfl ⟨rfl, rfl, rfl⟩ rfl rfl) (sim_V 4 rfl ⟨rfl, rfl, rfl⟩ rfl rfl)) (fun _ _ => ⟨_, rfl⟩)) simL_nil rfl) rfl) rfl rfl rfl rfl) simL_nil rfl) rfl) rfl rfl rfl rfl) rfl)
    sim_bNil) sim_bNil)
    sim_bNil) (fun _ => rfl))
    (sim_bCons (sim_kRet (sim_V 3 rfl ⟨rfl, rfl, rfl⟩ rfl rfl))
    sim_bNil)))
theorem spec_mixed {g_radd g_rmul : List D → R D} (ok : G.OK) (fk : FlyOK G) (hd : DefAt G .mixed_ (fArgs (stAt 24)) (fBody (stAt 24)) (fScope (stAt 24))) (h_radd : Spec G n .radd_ g_radd) (h_rmul : Spec G n .rmul_ g_rmul) : Spec G (n + 1) .mixed_ (fnD 3 2 (b_mixed g_radd g_rmul)) :=
  spec_of (ps := [nm "a", nm "b", nm "at"]) (locs := [nm "found", nm "spot"]) ok fk hd rfl rfl rfl (fun vs h => match vs, h with | [_, _, _], _ => fun _ _ _ _ => rfl) (by decide) (by decide) fun c L a cd _ co fr => body_mixed ok h_radd h_rmul c L a cd co fr
theorem body_smul {g_let g_mixed : List D → R D} (ok : G.OK) (h_let : Spec G n .let_ g_let) (h_mixed : Spec G n .mixed_ g_mixed) (c : Act) (L a : Addr) (cd : Value) (co : c.OK G n) (fr : Frm c (envOfC (Str.ofString (fnStr .smul_)) (fScope (stAt 25)) L a cd) ([nm "a", nm "b"] ++ [])) :
    BSim G c (envOfC (Str.ofString (fnStr .smul_)) (fScope (stAt 25)) L a cd) ([nm "a", nm "b"] ++ []) (fBody (stAt 25)) (b_smul g_let g_mixed) :=
  (sim_bCons (sim_kRet (sim_cComp co (xs := [nm "at"]) (ys := [nm "a", nm "b"]) (fun _ => rfl) rfl (by decide) (by decide) rfl (by decide) ⟨⟨rfl, rfl, (by first | exact .inl rfl | exact .inr rfl), (by first | exact .inl rfl | exact .inr rfl)⟩, ⟨⟨rfl, rfl, (by first | exact .inl rfl | exact .inr rfl), (by first | exact .inl rfl | exact .inr rfl)⟩, trivial⟩⟩ (cs_one (simI_R ⟨rfl, rfl, rfl⟩ ok co (fun _ _ => rfl) (simL_cons (sim_B (x := "min") b_min (.tail _ (.tail _ (.head _))) how_builtin ⟨rfl, rfl, rfl⟩ ok co (simL_cons (sim_B (x := "len") b_len (.tail _ (.head _)) how_builtin ⟨rfl, rfl, rfl⟩ ok co (simL_cons (sim_V 0 rfl ⟨rfl, rfl, rfl⟩ rfl rfl) simL_nil rfl) rfl rfl rfl rfl rfl) (simL_cons (sim_B (x := "len") b_len (.tail _ (.head _)) how_builtin ⟨rfl, rfl, rfl⟩ ok co (simL_cons (sim_V 1 rfl ⟨rfl, rfl, rfl⟩ rfl rfl) simL_nil rfl) rfl rfl rfl rfl rfl) simL_nil rfl) rfl) rfl rfl rfl rfl rfl) simL_nil rfl) rfl rfl rfl rfl rfl) rfl rfl) (fun C => (sim_C (fn := .let_) rfl h_let ⟨rfl, rfl, rfl⟩ ok co (simL_cons (sim_C (fn := .mixed_) rfl h_mixed ⟨rfl, rfl, rfl⟩ ok co (simL_cons (sim_V 1 rfl ⟨rfl, rfl, rfl⟩ rfl rfl) (simL_cons (sim_V 2 rfl ⟨rfl, rfl, rfl⟩ rfl rfl) (simL_cons (sim_V 0 rfl ⟨rfl, rfl, rfl⟩ rfl rfl) simL_nil rfl) rfl) rfl) rfl rfl rfl rfl) simL_nil rfl) rfl rfl rfl rfl))))
    sim_bNil)
theorem spec_smul {g_let g_mixed : List D → R D} (ok : G.OK) (fk : FlyOK G) (hd : DefAt G .smul_ (fArgs (stAt 25)) (fBody (stAt 25)) (fScope (stAt 25))) (h_let : Spec G n .let_ g_let) (h_mixed : Spec G n .mixed_ g_mixed) : Spec G (n + 1) .smul_ (fnD 2 0 (b_smul g_let g_mixed)) :=
  spec_of (ps := [nm "a", nm "b"]) (locs := []) ok fk hd rfl rfl rfl (fun vs h => match vs, h with | [_, _], _ => fun _ _ _ _ => rfl) (by decide) (by decide) fun c L a cd _ co fr => body_smul ok h_let h_mixed c L a cd co fr
theorem body_sinverse {g_rsub g_rmul g_let g_rdiv : List D → R D} (ok : G.OK) (h_rsub : Spec G n .rsub_ g_rsub) (h_rmul : Spec G n .rmul_ g_rmul) (h_let : Spec G n .let_ g_let) (h_rdiv : Spec G n .rdiv_ g_rdiv) (c : Act) (L a : Addr) (cd : Value) (co : c.OK G n) (fr : Frm c (envOfC (Str.ofString (fnStr .sinverse_)) (fScope (stAt 26)) L a cd) ([nm "a"] ++ [nm "found", nm "at", nm "total", nm "spot"])) :
    BSim G c (envOfC (Str.ofString (fnStr .sinverse_)) (fScope (stAt 26)) L a cd) ([nm "a"] ++ [nm "found", nm "at", nm "total", nm "spot"]) (fBody (stAt 26)) (b_sinverse g_rsub g_rmul g_let g_rdiv) :=
  (sim_bCons (sim_kIf (simT_And (simT_Cmp co (sim_B (x := "len") b_len (.tail _ (.head _)) how_builtin ⟨rfl, rfl, rfl⟩ ok co (simL_cons (sim_V 0 rfl ⟨rfl, rfl, rfl⟩ rfl rfl) simL_nil rfl) rfl rfl rfl rfl rfl) sim_K_int rfl) (simT_And (simT_Cmp co (sim_It (sim_V 0 rfl ⟨rfl, rfl, rfl⟩ rfl rfl) sim_K_int (fun _ _ => ⟨_, rfl⟩)) (sim_G ⟨rfl, rfl, rfl⟩ ok co (x := "R0") (.head _) rfl rfl) rfl) simT_AndNil)) (sim_bCons sim_kNo
    sim_bNil) sim_bNil)
    (sim_bCons (sim_kOwnL co fr rfl (by first | exact .inl rfl | exact .inr ⟨rfl, rfl⟩) simL_nil)
    (sim_bCons (sim_kFo co fr rfl (by first | exact .inl rfl | exact .inr ⟨rfl, rfl⟩) (simI_R ⟨rfl, rfl, rfl⟩ ok co (fun _ _ => rfl) (simL_cons (sim_B (x := "len") b_len (.tail _ (.head _)) how_builtin ⟨rfl, rfl, rfl⟩ ok co (simL_cons (sim_V 0 rfl ⟨rfl, rfl, rfl⟩ rfl rfl) simL_nil rfl) rfl rfl rfl rfl rfl) simL_nil rfl) rfl rfl rfl rfl rfl) (sim_bCons (sim_kAs fr rfl (by first | exact .inl rfl | exact .inr ⟨rfl, rfl⟩) (sim_If (simT_Cmp co (sim_V 2 rfl ⟨rfl, rfl, rfl⟩ rfl rfl) sim_K_int rfl) (sim_G ⟨rfl, rfl, rfl⟩ ok co (x := "R1") (.tail _ (.head _)) rfl rfl) (sim_G ⟨rfl, rfl, rfl⟩ ok co (x := "R0") (.head _) rfl rfl)) rfl)
    (sim_bCons (sim_kFo co fr rfl (by first | exact .inl rfl | exact .inr ⟨rfl, rfl⟩) (simI_R ⟨rfl, rfl, rfl⟩ ok co (fun _ _ => rfl) (simL_cons sim_K_int (simL_cons (sim_Bin (sim_V 2 rfl ⟨rfl, rfl, rfl⟩ rfl rfl) sim_K_int) simL_nil rfl) rfl) rfl rfl rfl rfl rfl) (sim_bCons (sim_kAs fr rfl (by first | exact .inl rfl | exact .inr ⟨rfl, rfl⟩) (sim_C (fn := .rsub_) rfl h_rsub ⟨rfl, rfl, rfl⟩ ok co (simL_cons (sim_V 3 rfl ⟨rfl, rfl, rfl⟩ rfl rfl) (simL_cons (sim_C (fn := .rmul_) rfl h_rmul ⟨rfl, rfl, rfl⟩ ok co (simL_cons (sim_It (sim_V 0 rfl ⟨rfl, rfl, rfl⟩ rfl rfl) (sim_V 4 rfl ⟨rfl, rfl, rfl⟩ rfl rfl) (fun _ _ => ⟨_, rfl⟩)) (simL_cons (sim_ItO 1 rfl ⟨rfl, rfl, rfl⟩ rfl rfl (sim_Bin (sim_V 2 rfl ⟨rfl, rfl, rfl⟩ rfl rfl) (sim_V 4 rfl ⟨rfl, rfl, rfl⟩ rfl rfl)) (fun _ _ => ⟨_, rfl⟩)) simL_nil rfl) rfl) rfl rfl rfl rfl) simL_nil rfl) rfl) rfl rfl rfl rfl) rfl)
    sim_bNil) (fun _ => rfl))
    (sim_bCons (sim_kAp fr rfl (sim_C (fn := .let_) rfl h_let ⟨rfl, rfl, rfl⟩ ok co (simL_cons (sim_C (fn := .rdiv_) rfl h_rdiv ⟨rfl, rfl, rfl⟩ ok co (simL_cons (sim_V 3 rfl ⟨rfl, rfl, rfl⟩ rfl rfl) (simL_cons (sim_It (sim_V 0 rfl ⟨rfl, rfl, rfl⟩ rfl rfl) sim_K_int (fun _ _ => ⟨_, rfl⟩)) simL_nil rfl) rfl) rfl rfl rfl rfl) simL_nil rfl) rfl rfl rfl rfl) rfl rfl rfl rfl rfl rfl rfl rfl)
    sim_bNil))) (fun _ => rfl))
    (sim_kFz fr rfl (sim_bCons (sim_kRet (sim_V 1 rfl ⟨rfl, rfl, rfl⟩ rfl rfl))
    sim_bNil)))))
theorem spec_sinverse {g_rsub g_rmul g_let g_rdiv : List D → R D} (ok : G.OK) (fk : FlyOK G) (hd : DefAt G .sinverse_ (fArgs (stAt 26)) (fBody (stAt 26)) (fScope (stAt 26))) (h_rsub : Spec G n .rsub_ g_rsub) (h_rmul : Spec G n .rmul_ g_rmul) (h_let : Spec G n .let_ g_let) (h_rdiv : Spec G n .rdiv_ g_rdiv) : Spec G (n + 1) .sinverse_ (fnD 1 4 (b_sinverse g_rsub g_rmul g_let g_rdiv)) :=
  spec_of (ps := [nm "a"]) (locs := [nm "found", nm "at", nm "total", nm "spot"]) ok fk hd rfl rfl rfl (fun vs h => match vs, h with | [_], _ => fun _ _ _ _ => rfl) (by decide) (by decide) fun c L a cd _ co fr => body_sinverse ok h_rsub h_rmul h_let h_rdiv c L a cd co fr
theorem body_sderive {g_rmul : List D → R D} (ok : G.OK) (h_rmul : Spec G n .rmul_ g_rmul) (c : Act) (L a : Addr) (cd : Value) (co : c.OK G n) (fr : Frm c (envOfC (Str.ofString (fnStr .sderive_)) (fScope (stAt 27)) L a cd) ([nm "a"] ++ [])) :
    BSim G c (envOfC (Str.ofString (fnStr .sderive_)) (fScope (stAt 27)) L a cd) ([nm "a"] ++ []) (fBody (stAt 27)) (b_sderive g_rmul) :=
  (sim_bCons (sim_kRet (sim_cComp co (xs := [nm "at"]) (ys := [nm "a"]) (fun _ => rfl) rfl (by decide) (by decide) rfl (by decide) ⟨⟨rfl, rfl, (by first | exact .inl rfl | exact .inr rfl), (by first | exact .inl rfl | exact .inr rfl)⟩, trivial⟩ (cs_one (simI_R ⟨rfl, rfl, rfl⟩ ok co (fun _ _ => rfl) (simL_cons sim_K_int (simL_cons (sim_B (x := "len") b_len (.tail _ (.head _)) how_builtin ⟨rfl, rfl, rfl⟩ ok co (simL_cons (sim_V 0 rfl ⟨rfl, rfl, rfl⟩ rfl rfl) simL_nil rfl) rfl rfl rfl rfl rfl) simL_nil rfl) rfl) rfl rfl rfl rfl rfl) rfl rfl) (fun C => (sim_C (fn := .rmul_) rfl h_rmul ⟨rfl, rfl, rfl⟩ ok co (simL_cons (sim_Tup (simL_cons (sim_V 0 rfl ⟨rfl, rfl, rfl⟩ rfl rfl) (simL_cons sim_K_int simL_nil rfl) rfl)) (simL_cons (sim_It (sim_V 1 rfl ⟨rfl, rfl, rfl⟩ rfl rfl) (sim_V 0 rfl ⟨rfl, rfl, rfl⟩ rfl rfl) (fun _ _ => ⟨_, rfl⟩)) simL_nil rfl) rfl) rfl rfl rfl rfl))))
    sim_bNil)
theorem spec_sderive {g_rmul : List D → R D} (ok : G.OK) (fk : FlyOK G) (hd : DefAt G .sderive_ (fArgs (stAt 27)) (fBody (stAt 27)) (fScope (stAt 27))) (h_rmul : Spec G n .rmul_ g_rmul) : Spec G (n + 1) .sderive_ (fnD 1 0 (b_sderive g_rmul)) :=
  spec_of (ps := [nm "a"]) (locs := []) ok fk hd rfl rfl rfl (fun vs h => match vs, h with | [_], _ => fun _ _ _ _ => rfl) (by decide) (by decide) fun c L a cd _ co fr => body_sderive ok h_rmul c L a cd co fr
theorem body_sintegrate {g_rdiv : List D → R D} (ok : G.OK) (h_rdiv : Spec G n .rdiv_ g_rdiv) (c : Act) (L a : Addr) (cd : Value) (co : c.OK G n) (fr : Frm c (envOfC (Str.ofString (fnStr .sintegrate_)) (fScope (stAt 28)) L a cd) ([nm "a"] ++ [])) :
    BSim G c (envOfC (Str.ofString (fnStr .sintegrate_)) (fScope (stAt 28)) L a cd) ([nm "a"] ++ []) (fBody (stAt 28)) (b_sintegrate g_rdiv) :=
  (sim_bCons (sim_kRet (sim_Bin (sim_Lst (simL_cons (sim_G ⟨rfl, rfl, rfl⟩ ok co (x := "R0") (.head _) rfl rfl) simL_nil rfl)) (sim_cComp co (xs := [nm "at"]) (ys := [nm "a"]) (fun _ => rfl) rfl (by decide) (by decide) rfl (by decide) ⟨⟨rfl, rfl, (by first | exact .inl rfl | exact .inr rfl), (by first | exact .inl rfl | exact .inr rfl)⟩, trivial⟩ (cs_one (simI_R ⟨rfl, rfl, rfl⟩ ok co (fun _ _ => rfl) (simL_cons (sim_B (x := "len") b_len (.tail _ (.head _)) how_builtin ⟨rfl, rfl, rfl⟩ ok co (simL_cons (sim_V 0 rfl ⟨rfl, rfl, rfl⟩ rfl rfl) simL_nil rfl) rfl rfl rfl rfl rfl) simL_nil rfl) rfl rfl rfl rfl rfl) rfl rfl) (fun C => (sim_C (fn := .rdiv_) rfl h_rdiv ⟨rfl, rfl, rfl⟩ ok co (simL_cons (sim_It (sim_V 1 rfl ⟨rfl, rfl, rfl⟩ rfl rfl) (sim_V 0 rfl ⟨rfl, rfl, rfl⟩ rfl rfl) (fun _ _ => ⟨_, rfl⟩)) (simL_cons (sim_Tup (simL_cons (sim_Bin (sim_V 0 rfl ⟨rfl, rfl, rfl⟩ rfl rfl) sim_K_int) (simL_cons sim_K_int simL_nil rfl) rfl)) simL_nil rfl) rfl) rfl rfl rfl rfl)))))
    sim_bNil)
theorem spec_sintegrate {g_rdiv : List D → R D} (ok : G.OK) (fk : FlyOK G) (hd : DefAt G .sintegrate_ (fArgs (stAt 28)) (fBody (stAt 28)) (fScope (stAt 28))) (h_rdiv : Spec G n .rdiv_ g_rdiv) : Spec G (n + 1) .sintegrate_ (fnD 1 0 (b_sintegrate g_rdiv)) :=
  spec_of (ps := [nm "a"]) (locs := []) ok fk hd rfl rfl rfl (fun vs h => match vs, h with | [_], _ => fun _ _ _ _ => rfl) (by decide) (by decide) fun c L a cd _ co fr => body_sintegrate ok h_rdiv c L a cd co fr
theorem body_need_begin {g_rcompare : List D → R D} (ok : G.OK) (h_rcompare : Spec G n .rcompare_ g_rcompare) (c : Act) (L a : Addr) (cd : Value) (co : c.OK G n) (fr : Frm c (envOfC (Str.ofString (fnStr .need_begin_)) (fScope (stAt 29)) L a cd) ([nm "a", nm "number"] ++ [])) :
    BSim G c (envOfC (Str.ofString (fnStr .need_begin_)) (fScope (stAt 29)) L a cd) ([nm "a", nm "number"] ++ []) (fBody (stAt 29)) (b_need_begin g_rcompare) :=
  (sim_bCons (sim_kIf (simT_And (simT_Cmp co (sim_B (x := "len") b_len (.tail _ (.head _)) how_builtin ⟨rfl, rfl, rfl⟩ ok co (simL_cons (sim_V 0 rfl ⟨rfl, rfl, rfl⟩ rfl rfl) simL_nil rfl) rfl rfl rfl rfl rfl) sim_K_int rfl) (simT_And (simT_Cmp co (sim_C (fn := .rcompare_) rfl h_rcompare ⟨rfl, rfl, rfl⟩ ok co (simL_cons (sim_It (sim_V 0 rfl ⟨rfl, rfl, rfl⟩ rfl rfl) sim_K_int (fun _ _ => ⟨_, rfl⟩)) (simL_cons (sim_V 1 rfl ⟨rfl, rfl, rfl⟩ rfl rfl) simL_nil rfl) rfl) rfl rfl rfl rfl) sim_K_int rfl) simT_AndNil)) (sim_bCons sim_kNo
    sim_bNil) sim_bNil)
    sim_bNil)
theorem spec_need_begin {g_rcompare : List D → R D} (ok : G.OK) (fk : FlyOK G) (hd : DefAt G .need_begin_ (fArgs (stAt 29)) (fBody (stAt 29)) (fScope (stAt 29))) (h_rcompare : Spec G n .rcompare_ g_rcompare) : Spec G (n + 1) .need_begin_ (fnD 2 0 (b_need_begin g_rcompare)) :=
  spec_of (ps := [nm "a", nm "number"]) (locs := []) ok fk hd rfl rfl rfl (fun vs h => match vs, h with | [_, _], _ => fun _ _ _ _ => rfl) (by decide) (by decide) fun c L a cd _ co fr => body_need_begin ok h_rcompare c L a cd co fr
theorem body_sexp {g_need_begin g_radd g_rmul g_let g_rdiv : List D → R D} (ok : G.OK) (h_need_begin : Spec G n .need_begin_ g_need_begin) (h_radd : Spec G n .radd_ g_radd) (h_rmul : Spec G n .rmul_ g_rmul) (h_let : Spec G n .let_ g_let) (h_rdiv : Spec G n .rdiv_ g_rdiv) (c : Act) (L a : Addr) (cd : Value) (co : c.OK G n) (fr : Frm c (envOfC (Str.ofString (fnStr .sexp_)) (fScope (stAt 30)) L a cd) ([nm "a"] ++ [nm "found", nm "at", nm "total", nm "spot"])) :
    BSim G c (envOfC (Str.ofString (fnStr .sexp_)) (fScope (stAt 30)) L a cd) ([nm "a"] ++ [nm "found", nm "at", nm "total", nm "spot"]) (fBody (stAt 30)) (b_sexp g_need_begin g_radd g_rmul g_let g_rdiv) :=
  (sim_bCons (sim_kEx (sim_C (fn := .need_begin_) rfl h_need_begin ⟨rfl, rfl, rfl⟩ ok co (simL_cons (sim_V 0 rfl ⟨rfl, rfl, rfl⟩ rfl rfl) (simL_cons (sim_G ⟨rfl, rfl, rfl⟩ ok co (x := "R0") (.head _) rfl rfl) simL_nil rfl) rfl) rfl rfl rfl rfl) rfl rfl)
    (sim_bCons (sim_kOwnL co fr rfl (by first | exact .inl rfl | exact .inr ⟨rfl, rfl⟩) simL_nil)
    (sim_bCons (sim_kFo co fr rfl (by first | exact .inl rfl | exact .inr ⟨rfl, rfl⟩) (simI_R ⟨rfl, rfl, rfl⟩ ok co (fun _ _ => rfl) (simL_cons (sim_B (x := "len") b_len (.tail _ (.head _)) how_builtin ⟨rfl, rfl, rfl⟩ ok co (simL_cons (sim_V 0 rfl ⟨rfl, rfl, rfl⟩ rfl rfl) simL_nil rfl) rfl rfl rfl rfl rfl) simL_nil rfl) rfl rfl rfl rfl rfl) (sim_bCons (sim_kAs fr rfl (by first | exact .inl rfl | exact .inr ⟨rfl, rfl⟩) (sim_G ⟨rfl, rfl, rfl⟩ ok co (x := "R0") (.head _) rfl rfl) rfl)
    (sim_bCons (sim_kFo co fr rfl (by first | exact .inl rfl | exact .inr ⟨rfl, rfl⟩) (simI_R ⟨rfl, rfl, rfl⟩ ok co (fun _ _ => rfl) (simL_cons sim_K_int (simL_cons (sim_Bin (sim_V 2 rfl ⟨rfl, rfl, rfl⟩ rfl rfl) sim_K_int) simL_nil rfl) rfl) rfl rfl rfl rfl rfl) (sim_bCons (sim_kAs fr rfl (by first | exact .inl rfl | exact .inr ⟨rfl, rfl⟩) (sim_C (fn := .radd_) rfl h_radd ⟨rfl, rfl, rfl⟩ ok co (simL_cons (sim_V 3 rfl ⟨rfl, rfl, rfl⟩ rfl rfl) (simL_cons (sim_C (fn := .rmul_) rfl h_rmul ⟨rfl, rfl, rfl⟩ ok co (simL_cons (sim_C (fn := .rmul_) rfl h_rmul ⟨rfl, rfl, rfl⟩ ok co (simL_cons (sim_Tup (simL_cons (sim_V 4 rfl ⟨rfl, rfl, rfl⟩ rfl rfl) (simL_cons sim_K_int simL_nil rfl) rfl)) (simL_cons (sim_It (sim_V 0 rfl ⟨rfl, rfl, rfl⟩ rfl rfl) (sim_V 4 rfl ⟨rfl, rfl, rfl⟩ rfl rfl) (fun _ _ => ⟨_, rfl⟩)) simL_nil rfl) rfl) rfl rfl rfl rfl) (simL_cons (sim_ItO 1 rfl ⟨rfl, rfl, rfl⟩ rfl rfl (sim_Bin (sim_V 2 rfl ⟨rfl, rfl, rfl⟩ rfl rfl) (sim_V 4 rfl ⟨rfl, rfl, rfl⟩ rfl rfl)) (fun _ _ => ⟨_, rfl⟩)) simL_nil rfl) rfl) rfl rfl rfl rfl) simL_nil rfl) rfl) rfl rfl rfl rfl) rfl)
    sim_bNil) (fun _ => rfl))
    (sim_bCons (sim_kAp fr rfl (sim_If (simT_Cmp co (sim_V 2 rfl ⟨rfl, rfl, rfl⟩ rfl rfl) sim_K_int rfl) (sim_G ⟨rfl, rfl, rfl⟩ ok co (x := "R1") (.tail _ (.head _)) rfl rfl) (sim_C (fn := .let_) rfl h_let ⟨rfl, rfl, rfl⟩ ok co (simL_cons (sim_C (fn := .rdiv_) rfl h_rdiv ⟨rfl, rfl, rfl⟩ ok co (simL_cons (sim_V 3 rfl ⟨rfl, rfl, rfl⟩ rfl rfl) (simL_cons (sim_Tup (simL_cons (sim_V 2 rfl ⟨rfl, rfl, rfl⟩ rfl rfl) (simL_cons sim_K_int simL_nil rfl) rfl)) simL_nil rfl) rfl) rfl rfl rfl rfl) simL_nil rfl) rfl rfl rfl rfl)) rfl rfl rfl rfl rfl rfl rfl rfl)
    sim_bNil))) (fun _ => rfl))
    (sim_kFz fr rfl (sim_bCons (sim_kRet (sim_V 1 rfl ⟨rfl, rfl, rfl⟩ rfl rfl))
    sim_bNil)))))
theorem spec_sexp {g_need_begin g_radd g_rmul g_let g_rdiv : List D → R D} (ok : G.OK) (fk : FlyOK G) (hd : DefAt G .sexp_ (fArgs (stAt 30)) (fBody (stAt 30)) (fScope (stAt 30))) (h_need_begin : Spec G n .need_begin_ g_need_begin) (h_radd : Spec G n .radd_ g_radd) (h_rmul : Spec G n .rmul_ g_rmul) (h_let : Spec G n .let_ g_let) (h_rdiv : Spec G n .rdiv_ g_rdiv) : Spec G (n + 1) .sexp_ (fnD 1 4 (b_sexp g_need_begin g_radd g_rmul g_let g_rdiv)) :=
  spec_of (ps := [nm "a"]) (locs := [nm "found", nm "at", nm "total", nm "spot"]) ok fk hd rfl rfl rfl (fun vs h => match vs, h with | [_], _ => fun _ _ _ _ => rfl) (by decide) (by decide) fun c L a cd _ co fr => body_sexp ok h_need_begin h_radd h_rmul h_let h_rdiv c L a cd co fr
theorem body_slog {g_need_begin g_sintegrate g_smul g_sderive g_sinverse : List D → R D} (ok : G.OK) (h_need_begin : Spec G n .need_begin_ g_need_begin) (h_sintegrate : Spec G n .sintegrate_ g_sintegrate) (h_smul : Spec G n .smul_ g_smul) (h_sderive : Spec G n .sderive_ g_sderive) (h_sinverse : Spec G n .sinverse_ g_sinverse) (c : Act) (L a : Addr) (cd : Value) (co : c.OK G n) (fr : Frm c (envOfC (Str.ofString (fnStr .slog_)) (fScope (stAt 31)) L a cd) ([nm "a"] ++ [])) :
    BSim G c (envOfC (Str.ofString (fnStr .slog_)) (fScope (stAt 31)) L a cd) ([nm "a"] ++ []) (fBody (stAt 31)) (b_slog g_need_begin g_sintegrate g_smul g_sderive g_sinverse) :=
  (sim_bCons (sim_kEx (sim_C (fn := .need_begin_) rfl h_need_begin ⟨rfl, rfl, rfl⟩ ok co (simL_cons (sim_V 0 rfl ⟨rfl, rfl, rfl⟩ rfl rfl) (simL_cons (sim_G ⟨rfl, rfl, rfl⟩ ok co (x := "R1") (.tail _ (.head _)) rfl rfl) simL_nil rfl) rfl) rfl rfl rfl rfl) rfl rfl)
    (sim_bCons (sim_kIf (simT_Cmp co (sim_B (x := "len") b_len (.tail _ (.head _)) how_builtin ⟨rfl, rfl, rfl⟩ ok co (simL_cons (sim_V 0 rfl ⟨rfl, rfl, rfl⟩ rfl rfl) simL_nil rfl) rfl rfl rfl rfl rfl) sim_K_int rfl) (sim_bCons (sim_kRet (sim_Lst simL_nil))
    sim_bNil) sim_bNil)
    (sim_bCons (sim_kRet (sim_C (fn := .sintegrate_) rfl h_sintegrate ⟨rfl, rfl, rfl⟩ ok co (simL_cons (sim_C (fn := .smul_) rfl h_smul ⟨rfl, rfl, rfl⟩ ok co (simL_cons (sim_C (fn := .sderive_) rfl h_sderive ⟨rfl, rfl, rfl⟩ ok co (simL_cons (sim_V 0 rfl ⟨rfl, rfl, rfl⟩ rfl rfl) simL_nil rfl) rfl rfl rfl rfl) (simL_cons (sim_C (fn := .sinverse_) rfl h_sinverse ⟨rfl, rfl, rfl⟩ ok co (simL_cons (sim_V 0 rfl ⟨rfl, rfl, rfl⟩ rfl rfl) simL_nil rfl) rfl rfl rfl rfl) simL_nil rfl) rfl) rfl rfl rfl rfl) simL_nil rfl) rfl rfl rfl rfl))
    sim_bNil)))
theorem spec_slog {g_need_begin g_sintegrate g_smul g_sderive g_sinverse : List D → R D} (ok : G.OK) (fk : FlyOK G) (hd : DefAt G .slog_ (fArgs (stAt 31)) (fBody (stAt 31)) (fScope (stAt 31))) (h_need_begin : Spec G n .need_begin_ g_need_begin) (h_sintegrate : Spec G n .sintegrate_ g_sintegrate) (h_smul : Spec G n .smul_ g_smul) (h_sderive : Spec G n .sderive_ g_sderive) (h_sinverse : Spec G n .sinverse_ g_sinverse) : Spec G (n + 1) .slog_ (fnD 1 0 (b_slog g_need_begin g_sintegrate g_smul g_sderive g_sinverse)) :=
  spec_of (ps := [nm "a"]) (locs := []) ok fk hd rfl rfl rfl (fun vs h => match vs, h with | [_], _ => fun _ _ _ _ => rfl) (by decide) (by decide) fun c L a cd _ co fr => body_slog ok h_need_begin h_sintegrate h_smul h_sderive h_sinverse c L a cd co fr
theorem body_ssin_cos {g_need_begin g_rmul g_radd g_rsub g_let g_rdiv : List D → R D} (ok : G.OK) (h_need_begin : Spec G n .need_begin_ g_need_begin) (h_rmul : Spec G n .rmul_ g_rmul) (h_radd : Spec G n .radd_ g_radd) (h_rsub : Spec G n .rsub_ g_rsub) (h_let : Spec G n .let_ g_let) (h_rdiv : Spec G n .rdiv_ g_rdiv) (c : Act) (L a : Addr) (cd : Value) (co : c.OK G n) (fr : Frm c (envOfC (Str.ofString (fnStr .ssin_cos_)) (fScope (stAt 32)) L a cd) ([nm "a"] ++ [nm "sines", nm "others", nm "at", nm "one", nm "other", nm "spot", nm "moved"])) :
    BSim G c (envOfC (Str.ofString (fnStr .ssin_cos_)) (fScope (stAt 32)) L a cd) ([nm "a"] ++ [nm "sines", nm "others", nm "at", nm "one", nm "other", nm "spot", nm "moved"]) (fBody (stAt 32)) (b_ssin_cos g_need_begin g_rmul g_radd g_rsub g_let g_rdiv) :=
  (sim_bCons (sim_kEx (sim_C (fn := .need_begin_) rfl h_need_begin ⟨rfl, rfl, rfl⟩ ok co (simL_cons (sim_V 0 rfl ⟨rfl, rfl, rfl⟩ rfl rfl) (simL_cons (sim_G ⟨rfl, rfl, rfl⟩ ok co (x := "R0") (.head _) rfl rfl) simL_nil rfl) rfl) rfl rfl rfl rfl) rfl rfl)
    (sim_bCons (sim_kOwn2 co fr rfl rfl (by decide) (by first | exact .inl rfl | exact .inr ⟨rfl, rfl⟩) (by first | exact .inl rfl | exact .inr ⟨rfl, rfl⟩) rfl rfl)
    (sim_bCons (sim_kFo co fr rfl (by first | exact .inl rfl | exact .inr ⟨rfl, rfl⟩) (simI_R ⟨rfl, rfl, rfl⟩ ok co (fun _ _ => rfl) (simL_cons (sim_B (x := "len") b_len (.tail _ (.head _)) how_builtin ⟨rfl, rfl, rfl⟩ ok co (simL_cons (sim_V 0 rfl ⟨rfl, rfl, rfl⟩ rfl rfl) simL_nil rfl) rfl rfl rfl rfl rfl) simL_nil rfl) rfl rfl rfl rfl rfl) (sim_bCons (sim_kMu co fr rfl rfl (by first | exact .inl rfl | exact .inr ⟨rfl, rfl⟩) (by first | exact .inl rfl | exact .inr ⟨rfl, rfl⟩) (simL_cons (sim_G ⟨rfl, rfl, rfl⟩ ok co (x := "R0") (.head _) rfl rfl) (simL_cons (sim_G ⟨rfl, rfl, rfl⟩ ok co (x := "R0") (.head _) rfl rfl) simL_nil rfl) rfl) rfl rfl)
    (sim_bCons (sim_kFo co fr rfl (by first | exact .inl rfl | exact .inr ⟨rfl, rfl⟩) (simI_R ⟨rfl, rfl, rfl⟩ ok co (fun _ _ => rfl) (simL_cons sim_K_int (simL_cons (sim_Bin (sim_V 3 rfl ⟨rfl, rfl, rfl⟩ rfl rfl) sim_K_int) simL_nil rfl) rfl) rfl rfl rfl rfl rfl) (sim_bCons (sim_kAs fr rfl (by first | exact .inl rfl | exact .inr ⟨rfl, rfl⟩) (sim_C (fn := .rmul_) rfl h_rmul ⟨rfl, rfl, rfl⟩ ok co (simL_cons (sim_Tup (simL_cons (sim_V 6 rfl ⟨rfl, rfl, rfl⟩ rfl rfl) (simL_cons sim_K_int simL_nil rfl) rfl)) (simL_cons (sim_It (sim_V 0 rfl ⟨rfl, rfl, rfl⟩ rfl rfl) (sim_V 6 rfl ⟨rfl, rfl, rfl⟩ rfl rfl) (fun _ _ => ⟨_, rfl⟩)) simL_nil rfl) rfl) rfl rfl rfl rfl) rfl)
    (sim_bCons (sim_kAs fr rfl (by first | exact .inl rfl | exact .inr ⟨rfl, rfl⟩) (sim_C (fn := .radd_) rfl h_radd ⟨rfl, rfl, rfl⟩ ok co (simL_cons (sim_V 4 rfl ⟨rfl, rfl, rfl⟩ rfl rfl) (simL_cons (sim_C (fn := .rmul_) rfl h_rmul ⟨rfl, rfl, rfl⟩ ok co (simL_cons (sim_V 7 rfl ⟨rfl, rfl, rfl⟩ rfl rfl) (simL_cons (sim_ItO 2 rfl ⟨rfl, rfl, rfl⟩ rfl rfl (sim_Bin (sim_V 3 rfl ⟨rfl, rfl, rfl⟩ rfl rfl) (sim_V 6 rfl ⟨rfl, rfl, rfl⟩ rfl rfl)) (fun _ _ => ⟨_, rfl⟩)) simL_nil rfl) rfl) rfl rfl rfl rfl) simL_nil rfl) rfl) rfl rfl rfl rfl) rfl)
    (sim_bCons (sim_kAs fr rfl (by first | exact .inl rfl | exact .inr ⟨rfl, rfl⟩) (sim_C (fn := .rsub_) rfl h_rsub ⟨rfl, rfl, rfl⟩ ok co (simL_cons (sim_V 5 rfl ⟨rfl, rfl, rfl⟩ rfl rfl) (simL_cons (sim_C (fn := .rmul_) rfl h_rmul ⟨rfl, rfl, rfl⟩ ok co (simL_cons (sim_V 7 rfl ⟨rfl, rfl, rfl⟩ rfl rfl) (simL_cons (sim_ItO 1 rfl ⟨rfl, rfl, rfl⟩ rfl rfl (sim_Bin (sim_V 3 rfl ⟨rfl, rfl, rfl⟩ rfl rfl) (sim_V 6 rfl ⟨rfl, rfl, rfl⟩ rfl rfl)) (fun _ _ => ⟨_, rfl⟩)) simL_nil rfl) rfl) rfl rfl rfl rfl) simL_nil rfl) rfl) rfl rfl rfl rfl) rfl)
    sim_bNil))) (fun _ => rfl))
    (sim_bCons (sim_kAp fr rfl (sim_If (simT_Cmp co (sim_V 3 rfl ⟨rfl, rfl, rfl⟩ rfl rfl) sim_K_int rfl) (sim_G ⟨rfl, rfl, rfl⟩ ok co (x := "R0") (.head _) rfl rfl) (sim_C (fn := .let_) rfl h_let ⟨rfl, rfl, rfl⟩ ok co (simL_cons (sim_C (fn := .rdiv_) rfl h_rdiv ⟨rfl, rfl, rfl⟩ ok co (simL_cons (sim_V 4 rfl ⟨rfl, rfl, rfl⟩ rfl rfl) (simL_cons (sim_Tup (simL_cons (sim_V 3 rfl ⟨rfl, rfl, rfl⟩ rfl rfl) (simL_cons sim_K_int simL_nil rfl) rfl)) simL_nil rfl) rfl) rfl rfl rfl rfl) simL_nil rfl) rfl rfl rfl rfl)) rfl rfl rfl rfl rfl rfl rfl rfl)
    (sim_bCons (sim_kAp fr rfl (sim_If (simT_Cmp co (sim_V 3 rfl ⟨rfl, rfl, rfl⟩ rfl rfl) sim_K_int rfl) (sim_G ⟨rfl, rfl, rfl⟩ ok co (x := "R1") (.tail _ (.head _)) rfl rfl) (sim_C (fn := .let_) rfl h_let ⟨rfl, rfl, rfl⟩ ok co (simL_cons (sim_C (fn := .rdiv_) rfl h_rdiv ⟨rfl, rfl, rfl⟩ ok co (simL_cons (sim_V 5 rfl ⟨rfl, rfl, rfl⟩ rfl rfl) (simL_cons (sim_Tup (simL_cons (sim_V 3 rfl ⟨rfl, rfl, rfl⟩ rfl rfl) (simL_cons sim_K_int simL_nil rfl) rfl)) simL_nil rfl) rfl) rfl rfl rfl rfl) simL_nil rfl) rfl rfl rfl rfl)) rfl rfl rfl rfl rfl rfl rfl rfl)
    sim_bNil)))) (fun _ => rfl))
    (sim_kFz fr rfl (sim_kFz fr rfl (sim_bCons (sim_kRet (sim_Tup (simL_cons (sim_V 1 rfl ⟨rfl, rfl, rfl⟩ rfl rfl) (simL_cons (sim_V 2 rfl ⟨rfl, rfl, rfl⟩ rfl rfl) simL_nil rfl) rfl)))
    sim_bNil))))))
theorem spec_ssin_cos {g_need_begin g_rmul g_radd g_rsub g_let g_rdiv : List D → R D} (ok : G.OK) (fk : FlyOK G) (hd : DefAt G .ssin_cos_ (fArgs (stAt 32)) (fBody (stAt 32)) (fScope (stAt 32))) (h_need_begin : Spec G n .need_begin_ g_need_begin) (h_rmul : Spec G n .rmul_ g_rmul) (h_radd : Spec G n .radd_ g_radd) (h_rsub : Spec G n .rsub_ g_rsub) (h_let : Spec G n .let_ g_let) (h_rdiv : Spec G n .rdiv_ g_rdiv) : Spec G (n + 1) .ssin_cos_ (fnD 1 7 (b_ssin_cos g_need_begin g_rmul g_radd g_rsub g_let g_rdiv)) :=
  spec_of (ps := [nm "a"]) (locs := [nm "sines", nm "others", nm "at", nm "one", nm "other", nm "spot", nm "moved"]) ok fk hd rfl rfl rfl (fun vs h => match vs, h with | [_], _ => fun _ _ _ _ => rfl) (by decide) (by decide) fun c L a cd _ co fr => body_ssin_cos ok h_need_begin h_rmul h_radd h_rsub h_let h_rdiv c L a cd co fr
theorem body_ssin {g_ssin_cos : List D → R D} (ok : G.OK) (h_ssin_cos : Spec G n .ssin_cos_ g_ssin_cos) (c : Act) (L a : Addr) (cd : Value) (co : c.OK G n) (fr : Frm c (envOfC (Str.ofString (fnStr .ssin_)) (fScope (stAt 33)) L a cd) ([nm "a"] ++ [])) :
    BSim G c (envOfC (Str.ofString (fnStr .ssin_)) (fScope (stAt 33)) L a cd) ([nm "a"] ++ []) (fBody (stAt 33)) (b_ssin g_ssin_cos) :=
  (sim_bCons (sim_kRet (sim_It (sim_C (fn := .ssin_cos_) rfl h_ssin_cos ⟨rfl, rfl, rfl⟩ ok co (simL_cons (sim_V 0 rfl ⟨rfl, rfl, rfl⟩ rfl rfl) simL_nil rfl) rfl rfl rfl rfl) sim_K_int (fun _ _ => ⟨_, rfl⟩)))
    sim_bNil)
theorem spec_ssin {g_ssin_cos : List D → R D} (ok : G.OK) (fk : FlyOK G) (hd : DefAt G .ssin_ (fArgs (stAt 33)) (fBody (stAt 33)) (fScope (stAt 33))) (h_ssin_cos : Spec G n .ssin_cos_ g_ssin_cos) : Spec G (n + 1) .ssin_ (fnD 1 0 (b_ssin g_ssin_cos)) :=
  spec_of (ps := [nm "a"]) (locs := []) ok fk hd rfl rfl rfl (fun vs h => match vs, h with | [_], _ => fun _ _ _ _ => rfl) (by decide) (by decide) fun c L a cd _ co fr => body_ssin ok h_ssin_cos c L a cd co fr
theorem body_spower {g_need_begin g_rsub g_rmul g_radd g_let g_rdiv : List D → R D} (ok : G.OK) (h_need_begin : Spec G n .need_begin_ g_need_begin) (h_rsub : Spec G n .rsub_ g_rsub) (h_rmul : Spec G n .rmul_ g_rmul) (h_radd : Spec G n .radd_ g_radd) (h_let : Spec G n .let_ g_let) (h_rdiv : Spec G n .rdiv_ g_rdiv) (c : Act) (L a : Addr) (cd : Value) (co : c.OK G n) (fr : Frm c (envOfC (Str.ofString (fnStr .spower_)) (fScope (stAt 36)) L a cd) ([nm "a", nm "number"] ++ [nm "found", nm "at", nm "total", nm "spot", nm "times"])) :
    BSim G c (envOfC (Str.ofString (fnStr .spower_)) (fScope (stAt 36)) L a cd) ([nm "a", nm "number"] ++ [nm "found", nm "at", nm "total", nm "spot", nm "times"]) (fBody (stAt 36)) (b_spower g_need_begin g_rsub g_rmul g_radd g_let g_rdiv) :=
  (sim_bCons (sim_kEx (sim_C (fn := .need_begin_) rfl h_need_begin ⟨rfl, rfl, rfl⟩ ok co (simL_cons (sim_V 0 rfl ⟨rfl, rfl, rfl⟩ rfl rfl) (simL_cons (sim_G ⟨rfl, rfl, rfl⟩ ok co (x := "R1") (.tail _ (.head _)) rfl rfl) simL_nil rfl) rfl) rfl rfl rfl rfl) rfl rfl)
    (sim_bCons (sim_kOwnL co fr rfl (by first | exact .inl rfl | exact .inr ⟨rfl, rfl⟩) simL_nil)
    (sim_bCons (sim_kFo co fr rfl (by first | exact .inl rfl | exact .inr ⟨rfl, rfl⟩) (simI_R ⟨rfl, rfl, rfl⟩ ok co (fun _ _ => rfl) (simL_cons (sim_B (x := "len") b_len (.tail _ (.head _)) how_builtin ⟨rfl, rfl, rfl⟩ ok co (simL_cons (sim_V 0 rfl ⟨rfl, rfl, rfl⟩ rfl rfl) simL_nil rfl) rfl rfl rfl rfl rfl) simL_nil rfl) rfl rfl rfl rfl rfl) (sim_bCons (sim_kAs fr rfl (by first | exact .inl rfl | exact .inr ⟨rfl, rfl⟩) (sim_G ⟨rfl, rfl, rfl⟩ ok co (x := "R0") (.head _) rfl rfl) rfl)
    (sim_bCons (sim_kFo co fr rfl (by first | exact .inl rfl | exact .inr ⟨rfl, rfl⟩) (simI_R ⟨rfl, rfl, rfl⟩ ok co (fun _ _ => rfl) (simL_cons sim_K_int (simL_cons (sim_Bin (sim_V 3 rfl ⟨rfl, rfl, rfl⟩ rfl rfl) sim_K_int) simL_nil rfl) rfl) rfl rfl rfl rfl rfl) (sim_bCons (sim_kAs fr rfl (by first | exact .inl rfl | exact .inr ⟨rfl, rfl⟩) (sim_C (fn := .rsub_) rfl h_rsub ⟨rfl, rfl, rfl⟩ ok co (simL_cons (sim_C (fn := .rmul_) rfl h_rmul ⟨rfl, rfl, rfl⟩ ok co (simL_cons (sim_V 1 rfl ⟨rfl, rfl, rfl⟩ rfl rfl) (simL_cons (sim_Tup (simL_cons (sim_V 5 rfl ⟨rfl, rfl, rfl⟩ rfl rfl) (simL_cons sim_K_int simL_nil rfl) rfl)) simL_nil rfl) rfl) rfl rfl rfl rfl) (simL_cons (sim_Tup (simL_cons (sim_Bin (sim_V 3 rfl ⟨rfl, rfl, rfl⟩ rfl rfl) (sim_V 5 rfl ⟨rfl, rfl, rfl⟩ rfl rfl)) (simL_cons sim_K_int simL_nil rfl) rfl)) simL_nil rfl) rfl) rfl rfl rfl rfl) rfl)
    (sim_bCons (sim_kAs fr rfl (by first | exact .inl rfl | exact .inr ⟨rfl, rfl⟩) (sim_C (fn := .radd_) rfl h_radd ⟨rfl, rfl, rfl⟩ ok co (simL_cons (sim_V 4 rfl ⟨rfl, rfl, rfl⟩ rfl rfl) (simL_cons (sim_C (fn := .rmul_) rfl h_rmul ⟨rfl, rfl, rfl⟩ ok co (simL_cons (sim_C (fn := .rmul_) rfl h_rmul ⟨rfl, rfl, rfl⟩ ok co (simL_cons (sim_V 6 rfl ⟨rfl, rfl, rfl⟩ rfl rfl) (simL_cons (sim_It (sim_V 0 rfl ⟨rfl, rfl, rfl⟩ rfl rfl) (sim_V 5 rfl ⟨rfl, rfl, rfl⟩ rfl rfl) (fun _ _ => ⟨_, rfl⟩)) simL_nil rfl) rfl) rfl rfl rfl rfl) (simL_cons (sim_ItO 2 rfl ⟨rfl, rfl, rfl⟩ rfl rfl (sim_Bin (sim_V 3 rfl ⟨rfl, rfl, rfl⟩ rfl rfl) (sim_V 5 rfl ⟨rfl, rfl, rfl⟩ rfl rfl)) (fun _ _ => ⟨_, rfl⟩)) simL_nil rfl) rfl) rfl rfl rfl rfl) simL_nil rfl) rfl) rfl rfl rfl rfl) rfl)
    sim_bNil)) (fun _ => rfl))
    (sim_bCons (sim_kAp fr rfl (sim_If (simT_Cmp co (sim_V 3 rfl ⟨rfl, rfl, rfl⟩ rfl rfl) sim_K_int rfl) (sim_G ⟨rfl, rfl, rfl⟩ ok co (x := "R1") (.tail _ (.head _)) rfl rfl) (sim_C (fn := .let_) rfl h_let ⟨rfl, rfl, rfl⟩ ok co (simL_cons (sim_C (fn := .rdiv_) rfl h_rdiv ⟨rfl, rfl, rfl⟩ ok co (simL_cons (sim_V 4 rfl ⟨rfl, rfl, rfl⟩ rfl rfl) (simL_cons (sim_Tup (simL_cons (sim_V 3 rfl ⟨rfl, rfl, rfl⟩ rfl rfl) (simL_cons sim_K_int simL_nil rfl) rfl)) simL_nil rfl) rfl) rfl rfl rfl rfl) simL_nil rfl) rfl rfl rfl rfl)) rfl rfl rfl rfl rfl rfl rfl rfl)
    sim_bNil))) (fun _ => rfl))
    (sim_kFz fr rfl (sim_bCons (sim_kRet (sim_V 2 rfl ⟨rfl, rfl, rfl⟩ rfl rfl))
    sim_bNil)))))
theorem spec_spower {g_need_begin g_rsub g_rmul g_radd g_let g_rdiv : List D → R D} (ok : G.OK) (fk : FlyOK G) (hd : DefAt G .spower_ (fArgs (stAt 36)) (fBody (stAt 36)) (fScope (stAt 36))) (h_need_begin : Spec G n .need_begin_ g_need_begin) (h_rsub : Spec G n .rsub_ g_rsub) (h_rmul : Spec G n .rmul_ g_rmul) (h_radd : Spec G n .radd_ g_radd) (h_let : Spec G n .let_ g_let) (h_rdiv : Spec G n .rdiv_ g_rdiv) : Spec G (n + 1) .spower_ (fnD 2 5 (b_spower g_need_begin g_rsub g_rmul g_radd g_let g_rdiv)) :=
  spec_of (ps := [nm "a", nm "number"]) (locs := [nm "found", nm "at", nm "total", nm "spot", nm "times"]) ok fk hd rfl rfl rfl (fun vs h => match vs, h with | [_, _], _ => fun _ _ _ _ => rfl) (by decide) (by decide) fun c L a cd _ co fr => body_spower ok h_need_begin h_rsub h_rmul h_radd h_let h_rdiv c L a cd co fr
theorem body_swhole_power {g_sinverse g_cut g_smul : List D → R D} (ok : G.OK) (h_sinverse : Spec G n .sinverse_ g_sinverse) (h_cut : Spec G n .cut_ g_cut) (h_smul : Spec G n .smul_ g_smul) (c : Act) (L a : Addr) (cd : Value) (co : c.OK G n) (fr : Frm c (envOfC (Str.ofString (fnStr .swhole_power_)) (fScope (stAt 37)) L a cd) ([nm "a", nm "many"] ++ [nm "base", nm "found", nm "left"])) :
    BSim G c (envOfC (Str.ofString (fnStr .swhole_power_)) (fScope (stAt 37)) L a cd) ([nm "a", nm "many"] ++ [nm "base", nm "found", nm "left"]) (fBody (stAt 37)) (b_swhole_power g_sinverse g_cut g_smul) :=
  (sim_bCons (sim_kAs fr rfl (by first | exact .inl rfl | exact .inr ⟨rfl, rfl⟩) (sim_If (simT_Cmp co (sim_V 1 rfl ⟨rfl, rfl, rfl⟩ rfl rfl) sim_K_int rfl) (sim_C (fn := .sinverse_) rfl h_sinverse ⟨rfl, rfl, rfl⟩ ok co (simL_cons (sim_V 0 rfl ⟨rfl, rfl, rfl⟩ rfl rfl) simL_nil rfl) rfl rfl rfl rfl) (sim_V 0 rfl ⟨rfl, rfl, rfl⟩ rfl rfl)) rfl)
    (sim_bCons (sim_kMu co fr rfl rfl (by first | exact .inl rfl | exact .inr ⟨rfl, rfl⟩) (by first | exact .inl rfl | exact .inr ⟨rfl, rfl⟩) (simL_cons (sim_C (fn := .cut_) rfl h_cut ⟨rfl, rfl, rfl⟩ ok co (simL_cons (sim_Lst (simL_cons (sim_G ⟨rfl, rfl, rfl⟩ ok co (x := "R1") (.tail _ (.head _)) rfl rfl) simL_nil rfl)) (simL_cons (sim_B (x := "len") b_len (.tail _ (.head _)) how_builtin ⟨rfl, rfl, rfl⟩ ok co (simL_cons (sim_V 0 rfl ⟨rfl, rfl, rfl⟩ rfl rfl) simL_nil rfl) rfl rfl rfl rfl rfl) simL_nil rfl) rfl) rfl rfl rfl rfl) (simL_cons (sim_B (x := "abs") b_abs (.head _) how_builtin ⟨rfl, rfl, rfl⟩ ok co (simL_cons (sim_V 1 rfl ⟨rfl, rfl, rfl⟩ rfl rfl) simL_nil rfl) rfl rfl rfl rfl rfl) simL_nil rfl) rfl) rfl rfl)
    (sim_bCons (sim_kWh 20 (simT_Cmp co (sim_V 4 rfl ⟨rfl, rfl, rfl⟩ rfl rfl) sim_K_int rfl) (sim_bCons (sim_kIf (simT_Cmp co (sim_Bin (sim_V 4 rfl ⟨rfl, rfl, rfl⟩ rfl rfl) sim_K_int) sim_K_int rfl) (sim_bCons (sim_kAs fr rfl (by first | exact .inl rfl | exact .inr ⟨rfl, rfl⟩) (sim_C (fn := .smul_) rfl h_smul ⟨rfl, rfl, rfl⟩ ok co (simL_cons (sim_V 3 rfl ⟨rfl, rfl, rfl⟩ rfl rfl) (simL_cons (sim_V 2 rfl ⟨rfl, rfl, rfl⟩ rfl rfl) simL_nil rfl) rfl) rfl rfl rfl rfl) rfl)
    sim_bNil) sim_bNil)
    (sim_bCons (sim_kAs fr rfl (by first | exact .inl rfl | exact .inr ⟨rfl, rfl⟩) (sim_Bin (sim_V 4 rfl ⟨rfl, rfl, rfl⟩ rfl rfl) sim_K_int) rfl)
    (sim_bCons (sim_kAs fr rfl (by first | exact .inl rfl | exact .inr ⟨rfl, rfl⟩) (sim_If (simT_Cmp co (sim_V 4 rfl ⟨rfl, rfl, rfl⟩ rfl rfl) sim_K_int rfl) (sim_C (fn := .smul_) rfl h_smul ⟨rfl, rfl, rfl⟩ ok co (simL_cons (sim_V 2 rfl ⟨rfl, rfl, rfl⟩ rfl rfl) (simL_cons (sim_V 2 rfl ⟨rfl, rfl, rfl⟩ rfl rfl) simL_nil rfl) rfl) rfl rfl rfl rfl) (sim_V 2 rfl ⟨rfl, rfl, rfl⟩ rfl rfl)) rfl)
    sim_bNil))))
    (sim_bCons (sim_kRet (sim_V 3 rfl ⟨rfl, rfl, rfl⟩ rfl rfl))
    sim_bNil))))
theorem spec_swhole_power {g_sinverse g_cut g_smul : List D → R D} (ok : G.OK) (fk : FlyOK G) (hd : DefAt G .swhole_power_ (fArgs (stAt 37)) (fBody (stAt 37)) (fScope (stAt 37))) (h_sinverse : Spec G n .sinverse_ g_sinverse) (h_cut : Spec G n .cut_ g_cut) (h_smul : Spec G n .smul_ g_smul) : Spec G (n + 1) .swhole_power_ (fnD 2 3 (b_swhole_power g_sinverse g_cut g_smul)) :=
  spec_of (ps := [nm "a", nm "many"]) (locs := [nm "base", nm "found", nm "left"]) ok fk hd rfl rfl rfl (fun vs h => match vs, h with | [_, _], _ => fun _ _ _ _ => rfl) (by decide) (by decide) fun c L a cd _ co fr => body_swhole_power ok h_sinverse h_cut h_smul c L a cd co fr
theorem body_lplain (ok : G.OK) (c : Act) (L a : Addr) (cd : Value) (co : c.OK G n) (fr : Frm c (envOfC (Str.ofString (fnStr .lplain_)) (fScope (stAt 40)) L a cd) ([nm "number", nm "many"] ++ [])) :
    BSim G c (envOfC (Str.ofString (fnStr .lplain_)) (fScope (stAt 40)) L a cd) ([nm "number", nm "many"] ++ []) (fBody (stAt 40)) (b_lplain) :=
  (sim_bCons (sim_kRet (sim_Tup (simL_cons sim_K_int (simL_cons (sim_Bin (sim_Lst (simL_cons (sim_V 0 rfl ⟨rfl, rfl, rfl⟩ rfl rfl) simL_nil rfl)) (sim_Bin (sim_Lst (simL_cons (sim_G ⟨rfl, rfl, rfl⟩ ok co (x := "R0") (.head _) rfl rfl) simL_nil rfl)) (sim_Bin (sim_V 1 rfl ⟨rfl, rfl, rfl⟩ rfl rfl) sim_K_int))) simL_nil rfl) rfl)))
    sim_bNil)
theorem spec_lplain (ok : G.OK) (fk : FlyOK G) (hd : DefAt G .lplain_ (fArgs (stAt 40)) (fBody (stAt 40)) (fScope (stAt 40))) : Spec G (n + 1) .lplain_ (fnD 2 0 (b_lplain)) :=
  spec_of (ps := [nm "number", nm "many"]) (locs := []) ok fk hd rfl rfl rfl (fun vs h => match vs, h with | [_, _], _ => fun _ _ _ _ => rfl) (by decide) (by decide) fun c L a cd _ co fr => body_lplain ok  c L a cd co fr
theorem body_ladd {g_sadd : List D → R D} (ok : G.OK) (h_sadd : Spec G n .sadd_ g_sadd) (c : Act) (L a : Addr) (cd : Value) (co : c.OK G n) (fr : Frm c (envOfC (Str.ofString (fnStr .ladd_)) (fScope (stAt 41)) L a cd) ([nm "a", nm "b"] ++ [nm "low", nm "many", nm "one", nm "other"])) :
    BSim G c (envOfC (Str.ofString (fnStr .ladd_)) (fScope (stAt 41)) L a cd) ([nm "a", nm "b"] ++ [nm "low", nm "many", nm "one", nm "other"]) (fBody (stAt 41)) (b_ladd g_sadd) :=
  (sim_bCons (sim_kAs fr rfl (by first | exact .inl rfl | exact .inr ⟨rfl, rfl⟩) (sim_B (x := "min") b_min (.tail _ (.tail _ (.head _))) how_builtin ⟨rfl, rfl, rfl⟩ ok co (simL_cons (sim_It (sim_V 0 rfl ⟨rfl, rfl, rfl⟩ rfl rfl) sim_K_int (fun _ _ => ⟨_, rfl⟩)) (simL_cons (sim_It (sim_V 1 rfl ⟨rfl, rfl, rfl⟩ rfl rfl) sim_K_int (fun _ _ => ⟨_, rfl⟩)) simL_nil rfl) rfl) rfl rfl rfl rfl rfl) rfl)
    (sim_bCons (sim_kAs fr rfl (by first | exact .inl rfl | exact .inr ⟨rfl, rfl⟩) (sim_Bin (sim_B (x := "min") b_min (.tail _ (.tail _ (.head _))) how_builtin ⟨rfl, rfl, rfl⟩ ok co (simL_cons (sim_Bin (sim_It (sim_V 0 rfl ⟨rfl, rfl, rfl⟩ rfl rfl) sim_K_int (fun _ _ => ⟨_, rfl⟩)) (sim_B (x := "len") b_len (.tail _ (.head _)) how_builtin ⟨rfl, rfl, rfl⟩ ok co (simL_cons (sim_It (sim_V 0 rfl ⟨rfl, rfl, rfl⟩ rfl rfl) sim_K_int (fun _ _ => ⟨_, rfl⟩)) simL_nil rfl) rfl rfl rfl rfl rfl)) (simL_cons (sim_Bin (sim_It (sim_V 1 rfl ⟨rfl, rfl, rfl⟩ rfl rfl) sim_K_int (fun _ _ => ⟨_, rfl⟩)) (sim_B (x := "len") b_len (.tail _ (.head _)) how_builtin ⟨rfl, rfl, rfl⟩ ok co (simL_cons (sim_It (sim_V 1 rfl ⟨rfl, rfl, rfl⟩ rfl rfl) sim_K_int (fun _ _ => ⟨_, rfl⟩)) simL_nil rfl) rfl rfl rfl rfl rfl)) simL_nil rfl) rfl) rfl rfl rfl rfl rfl) (sim_V 2 rfl ⟨rfl, rfl, rfl⟩ rfl rfl)) rfl)
    (sim_bCons (sim_kUn co fr rfl rfl (by first | exact .inl rfl | exact .inr ⟨rfl, rfl⟩) (by first | exact .inl rfl | exact .inr ⟨rfl, rfl⟩) (sim_cComp co (xs := [nm "part"]) (ys := [nm "low", nm "many"]) (fun _ => rfl) rfl (by decide) (by decide) rfl (by decide) ⟨⟨rfl, rfl, (by first | exact .inl rfl | exact .inr rfl), (by first | exact .inl rfl | exact .inr rfl)⟩, ⟨⟨rfl, rfl, (by first | exact .inl rfl | exact .inr rfl), (by first | exact .inl rfl | exact .inr rfl)⟩, trivial⟩⟩ (cs_one (simI_S co (sim_Tup (simL_cons (sim_V 0 rfl ⟨rfl, rfl, rfl⟩ rfl rfl) (simL_cons (sim_V 1 rfl ⟨rfl, rfl, rfl⟩ rfl rfl) simL_nil rfl) rfl))) rfl rfl) (fun C => (sim_SlTo (sim_Bin (sim_Bin (sim_Lst (simL_cons (sim_G ⟨rfl, rfl, rfl⟩ ok co (x := "R0") (.head _) rfl rfl) simL_nil rfl)) (sim_B (x := "min") b_min (.tail _ (.tail _ (.head _))) how_builtin ⟨rfl, rfl, rfl⟩ ok co (simL_cons (sim_Bin (sim_It (sim_V 0 rfl ⟨rfl, rfl, rfl⟩ rfl rfl) sim_K_int (fun _ _ => ⟨_, rfl⟩)) (sim_V 1 rfl ⟨rfl, rfl, rfl⟩ rfl rfl)) (simL_cons (sim_V 2 rfl ⟨rfl, rfl, rfl⟩ rfl rfl) simL_nil rfl) rfl) rfl rfl rfl rfl rfl)) (sim_It (sim_V 0 rfl ⟨rfl, rfl, rfl⟩ rfl rfl) sim_K_int (fun _ _ => ⟨_, rfl⟩))) (sim_V 2 rfl ⟨rfl, rfl, rfl⟩ rfl rfl) (fun _ _ => ⟨_, rfl⟩)))) rfl rfl)
    (sim_bCons (sim_kRet (sim_Tup (simL_cons (sim_V 2 rfl ⟨rfl, rfl, rfl⟩ rfl rfl) (simL_cons (sim_C (fn := .sadd_) rfl h_sadd ⟨rfl, rfl, rfl⟩ ok co (simL_cons (sim_V 4 rfl ⟨rfl, rfl, rfl⟩ rfl rfl) (simL_cons (sim_V 5 rfl ⟨rfl, rfl, rfl⟩ rfl rfl) simL_nil rfl) rfl) rfl rfl rfl rfl) simL_nil rfl) rfl)))
    sim_bNil))))
theorem spec_ladd {g_sadd : List D → R D} (ok : G.OK) (fk : FlyOK G) (hd : DefAt G .ladd_ (fArgs (stAt 41)) (fBody (stAt 41)) (fScope (stAt 41))) (h_sadd : Spec G n .sadd_ g_sadd) : Spec G (n + 1) .ladd_ (fnD 2 4 (b_ladd g_sadd)) :=
  spec_of (ps := [nm "a", nm "b"]) (locs := [nm "low", nm "many", nm "one", nm "other"]) ok fk hd rfl rfl rfl (fun vs h => match vs, h with | [_, _], _ => fun _ _ _ _ => rfl) (by decide) (by decide) fun c L a cd _ co fr => body_ladd ok h_sadd c L a cd co fr
theorem body_lmul {g_smul : List D → R D} (ok : G.OK) (h_smul : Spec G n .smul_ g_smul) (c : Act) (L a : Addr) (cd : Value) (co : c.OK G n) (fr : Frm c (envOfC (Str.ofString (fnStr .lmul_)) (fScope (stAt 42)) L a cd) ([nm "a", nm "b"] ++ [])) :
    BSim G c (envOfC (Str.ofString (fnStr .lmul_)) (fScope (stAt 42)) L a cd) ([nm "a", nm "b"] ++ []) (fBody (stAt 42)) (b_lmul g_smul) :=
  (sim_bCons (sim_kRet (sim_Tup (simL_cons (sim_Bin (sim_It (sim_V 0 rfl ⟨rfl, rfl, rfl⟩ rfl rfl) sim_K_int (fun _ _ => ⟨_, rfl⟩)) (sim_It (sim_V 1 rfl ⟨rfl, rfl, rfl⟩ rfl rfl) sim_K_int (fun _ _ => ⟨_, rfl⟩))) (simL_cons (sim_C (fn := .smul_) rfl h_smul ⟨rfl, rfl, rfl⟩ ok co (simL_cons (sim_It (sim_V 0 rfl ⟨rfl, rfl, rfl⟩ rfl rfl) sim_K_int (fun _ _ => ⟨_, rfl⟩)) (simL_cons (sim_It (sim_V 1 rfl ⟨rfl, rfl, rfl⟩ rfl rfl) sim_K_int (fun _ _ => ⟨_, rfl⟩)) simL_nil rfl) rfl) rfl rfl rfl rfl) simL_nil rfl) rfl)))
    sim_bNil)
theorem spec_lmul {g_smul : List D → R D} (ok : G.OK) (fk : FlyOK G) (hd : DefAt G .lmul_ (fArgs (stAt 42)) (fBody (stAt 42)) (fScope (stAt 42))) (h_smul : Spec G n .smul_ g_smul) : Spec G (n + 1) .lmul_ (fnD 2 0 (b_lmul g_smul)) :=
  spec_of (ps := [nm "a", nm "b"]) (locs := []) ok fk hd rfl rfl rfl (fun vs h => match vs, h with | [_, _], _ => fun _ _ _ _ => rfl) (by decide) (by decide) fun c L a cd _ co fr => body_lmul ok h_smul c L a cd co fr
theorem body_ltrim (ok : G.OK) (c : Act) (L a : Addr) (cd : Value) (co : c.OK G n) (fr : Frm c (envOfC (Str.ofString (fnStr .ltrim_)) (fScope (stAt 43)) L a cd) ([nm "a"] ++ [nm "low", nm "rest"])) :
    BSim G c (envOfC (Str.ofString (fnStr .ltrim_)) (fScope (stAt 43)) L a cd) ([nm "a"] ++ [nm "low", nm "rest"]) (fBody (stAt 43)) (b_ltrim) :=
  (sim_bCons (sim_kUn co fr rfl rfl (by first | exact .inl rfl | exact .inr ⟨rfl, rfl⟩) (by first | exact .inl rfl | exact .inr ⟨rfl, rfl⟩) (sim_V 0 rfl ⟨rfl, rfl, rfl⟩ rfl rfl) rfl rfl)
    (sim_bCons (sim_kWh 20 (simT_And (simT_Cmp co (sim_B (x := "len") b_len (.tail _ (.head _)) how_builtin ⟨rfl, rfl, rfl⟩ ok co (simL_cons (sim_V 2 rfl ⟨rfl, rfl, rfl⟩ rfl rfl) simL_nil rfl) rfl rfl rfl rfl rfl) sim_K_int rfl) (simT_And (simT_Cmp co (sim_It (sim_V 2 rfl ⟨rfl, rfl, rfl⟩ rfl rfl) sim_K_int (fun _ _ => ⟨_, rfl⟩)) (sim_G ⟨rfl, rfl, rfl⟩ ok co (x := "R0") (.head _) rfl rfl) rfl) simT_AndNil)) (sim_bCons (sim_kMu co fr rfl rfl (by first | exact .inl rfl | exact .inr ⟨rfl, rfl⟩) (by first | exact .inl rfl | exact .inr ⟨rfl, rfl⟩) (simL_cons (sim_Bin (sim_V 1 rfl ⟨rfl, rfl, rfl⟩ rfl rfl) sim_K_int) (simL_cons (sim_SlFrom (k := 1) (sim_V 2 rfl ⟨rfl, rfl, rfl⟩ rfl rfl) (fun _ _ => ⟨_, rfl⟩)) simL_nil rfl) rfl) rfl rfl)
    sim_bNil))
    (sim_bCons (sim_kRet (sim_Tup (simL_cons (sim_V 1 rfl ⟨rfl, rfl, rfl⟩ rfl rfl) (simL_cons (sim_V 2 rfl ⟨rfl, rfl, rfl⟩ rfl rfl) simL_nil rfl) rfl)))
    sim_bNil)))
theorem spec_ltrim (ok : G.OK) (fk : FlyOK G) (hd : DefAt G .ltrim_ (fArgs (stAt 43)) (fBody (stAt 43)) (fScope (stAt 43))) : Spec G (n + 1) .ltrim_ (fnD 1 2 (b_ltrim)) :=
  spec_of (ps := [nm "a"]) (locs := [nm "low", nm "rest"]) ok fk hd rfl rfl rfl (fun vs h => match vs, h with | [_], _ => fun _ _ _ _ => rfl) (by decide) (by decide) fun c L a cd _ co fr => body_ltrim ok  c L a cd co fr
theorem body_linverse {g_ltrim g_sinverse : List D → R D} (ok : G.OK) (h_ltrim : Spec G n .ltrim_ g_ltrim) (h_sinverse : Spec G n .sinverse_ g_sinverse) (c : Act) (L a : Addr) (cd : Value) (co : c.OK G n) (fr : Frm c (envOfC (Str.ofString (fnStr .linverse_)) (fScope (stAt 44)) L a cd) ([nm "a"] ++ [nm "low", nm "rest"])) :
    BSim G c (envOfC (Str.ofString (fnStr .linverse_)) (fScope (stAt 44)) L a cd) ([nm "a"] ++ [nm "low", nm "rest"]) (fBody (stAt 44)) (b_linverse g_ltrim g_sinverse) :=
  (sim_bCons (sim_kUn co fr rfl rfl (by first | exact .inl rfl | exact .inr ⟨rfl, rfl⟩) (by first | exact .inl rfl | exact .inr ⟨rfl, rfl⟩) (sim_C (fn := .ltrim_) rfl h_ltrim ⟨rfl, rfl, rfl⟩ ok co (simL_cons (sim_V 0 rfl ⟨rfl, rfl, rfl⟩ rfl rfl) simL_nil rfl) rfl rfl rfl rfl) rfl rfl)
    (sim_bCons (sim_kIf (simT_Cmp co (sim_B (x := "len") b_len (.tail _ (.head _)) how_builtin ⟨rfl, rfl, rfl⟩ ok co (simL_cons (sim_V 2 rfl ⟨rfl, rfl, rfl⟩ rfl rfl) simL_nil rfl) rfl rfl rfl rfl rfl) sim_K_int rfl) (sim_bCons sim_kNo
    sim_bNil) sim_bNil)
    (sim_bCons (sim_kRet (sim_Tup (simL_cons (sim_Bin sim_K_int (sim_V 1 rfl ⟨rfl, rfl, rfl⟩ rfl rfl)) (simL_cons (sim_C (fn := .sinverse_) rfl h_sinverse ⟨rfl, rfl, rfl⟩ ok co (simL_cons (sim_V 2 rfl ⟨rfl, rfl, rfl⟩ rfl rfl) simL_nil rfl) rfl rfl rfl rfl) simL_nil rfl) rfl)))
    sim_bNil)))
theorem spec_linverse {g_ltrim g_sinverse : List D → R D} (ok : G.OK) (fk : FlyOK G) (hd : DefAt G .linverse_ (fArgs (stAt 44)) (fBody (stAt 44)) (fScope (stAt 44))) (h_ltrim : Spec G n .ltrim_ g_ltrim) (h_sinverse : Spec G n .sinverse_ g_sinverse) : Spec G (n + 1) .linverse_ (fnD 1 2 (b_linverse g_ltrim g_sinverse)) :=
  spec_of (ps := [nm "a"]) (locs := [nm "low", nm "rest"]) ok fk hd rfl rfl rfl (fun vs h => match vs, h with | [_], _ => fun _ _ _ _ => rfl) (by decide) (by decide) fun c L a cd _ co fr => body_linverse ok h_ltrim h_sinverse c L a cd co fr
theorem body_lpower {g_lpower g_linverse g_ltrim g_rpower g_swhole_power g_sscale g_spower g_rdiv : List D → R D} (ok : G.OK) (h_lpower : Spec G n .lpower_ g_lpower) (h_linverse : Spec G n .linverse_ g_linverse) (h_ltrim : Spec G n .ltrim_ g_ltrim) (h_rpower : Spec G n .rpower_ g_rpower) (h_swhole_power : Spec G n .swhole_power_ g_swhole_power) (h_sscale : Spec G n .sscale_ g_sscale) (h_spower : Spec G n .spower_ g_spower) (h_rdiv : Spec G n .rdiv_ g_rdiv) (c : Act) (L a : Addr) (cd : Value) (co : c.OK G n) (fr : Frm c (envOfC (Str.ofString (fnStr .lpower_)) (fScope (stAt 45)) L a cd) ([nm "a", nm "many"] ++ [nm "low", nm "rest", nm "first"])) :
    BSim G c (envOfC (Str.ofString (fnStr .lpower_)) (fScope (stAt 45)) L a cd) ([nm "a", nm "many"] ++ [nm "low", nm "rest", nm "first"]) (fBody (stAt 45)) (b_lpower g_lpower g_linverse g_ltrim g_rpower g_swhole_power g_sscale g_spower g_rdiv) :=
  (sim_bCons (sim_kIf (simT_Cmp co (sim_V 1 rfl ⟨rfl, rfl, rfl⟩ rfl rfl) sim_K_int rfl) (sim_bCons (sim_kRet (sim_Tup (simL_cons sim_K_int (simL_cons (sim_Bin (sim_Lst (simL_cons (sim_G ⟨rfl, rfl, rfl⟩ ok co (x := "R1") (.tail _ (.head _)) rfl rfl) simL_nil rfl)) (sim_Bin (sim_Lst (simL_cons (sim_G ⟨rfl, rfl, rfl⟩ ok co (x := "R0") (.head _) rfl rfl) simL_nil rfl)) (sim_Bin (sim_B (x := "len") b_len (.tail _ (.head _)) how_builtin ⟨rfl, rfl, rfl⟩ ok co (simL_cons (sim_It (sim_V 0 rfl ⟨rfl, rfl, rfl⟩ rfl rfl) sim_K_int (fun _ _ => ⟨_, rfl⟩)) simL_nil rfl) rfl rfl rfl rfl rfl) sim_K_int))) simL_nil rfl) rfl)))
    sim_bNil) sim_bNil)
    (sim_bCons (sim_kIf (simT_Cmp co (sim_V 1 rfl ⟨rfl, rfl, rfl⟩ rfl rfl) sim_K_int rfl) (sim_bCons (sim_kRet (sim_C (fn := .lpower_) rfl h_lpower ⟨rfl, rfl, rfl⟩ ok co (simL_cons (sim_C (fn := .linverse_) rfl h_linverse ⟨rfl, rfl, rfl⟩ ok co (simL_cons (sim_V 0 rfl ⟨rfl, rfl, rfl⟩ rfl rfl) simL_nil rfl) rfl rfl rfl rfl) (simL_cons (sim_Bin sim_K_int (sim_V 1 rfl ⟨rfl, rfl, rfl⟩ rfl rfl)) simL_nil rfl) rfl) rfl rfl rfl rfl))
    sim_bNil) sim_bNil)
    (sim_bCons (sim_kUn co fr rfl rfl (by first | exact .inl rfl | exact .inr ⟨rfl, rfl⟩) (by first | exact .inl rfl | exact .inr ⟨rfl, rfl⟩) (sim_C (fn := .ltrim_) rfl h_ltrim ⟨rfl, rfl, rfl⟩ ok co (simL_cons (sim_V 0 rfl ⟨rfl, rfl, rfl⟩ rfl rfl) simL_nil rfl) rfl rfl rfl rfl) rfl rfl)
    (sim_bCons (sim_kAs fr rfl (by first | exact .inl rfl | exact .inr ⟨rfl, rfl⟩) (sim_If (simT_Cmp co (sim_B (x := "len") b_len (.tail _ (.head _)) how_builtin ⟨rfl, rfl, rfl⟩ ok co (simL_cons (sim_V 3 rfl ⟨rfl, rfl, rfl⟩ rfl rfl) simL_nil rfl) rfl rfl rfl rfl rfl) sim_K_int rfl) (sim_C (fn := .rpower_) rfl h_rpower ⟨rfl, rfl, rfl⟩ ok co (simL_cons (sim_It (sim_V 3 rfl ⟨rfl, rfl, rfl⟩ rfl rfl) sim_K_int (fun _ _ => ⟨_, rfl⟩)) (simL_cons (sim_V 1 rfl ⟨rfl, rfl, rfl⟩ rfl rfl) simL_nil rfl) rfl) rfl rfl rfl rfl) (sim_G ⟨rfl, rfl, rfl⟩ ok co (x := "R1") (.tail _ (.head _)) rfl rfl)) rfl)
    (sim_bCons (sim_kIf (simT_Or (simT_Cmp co (sim_V 1 rfl ⟨rfl, rfl, rfl⟩ rfl rfl) (sim_G ⟨rfl, rfl, rfl⟩ ok co (x := "MOST_SQUARED") (.tail _ (.tail _ (.tail _ (.head _)))) rfl rfl) rfl) (simT_Or (simT_Cmp co (sim_B (x := "len") b_len (.tail _ (.head _)) how_builtin ⟨rfl, rfl, rfl⟩ ok co (simL_cons (sim_V 3 rfl ⟨rfl, rfl, rfl⟩ rfl rfl) simL_nil rfl) rfl rfl rfl rfl rfl) sim_K_int rfl) simT_OrNil)) (sim_bCons (sim_kRet (sim_Tup (simL_cons (sim_Bin (sim_V 2 rfl ⟨rfl, rfl, rfl⟩ rfl rfl) (sim_V 1 rfl ⟨rfl, rfl, rfl⟩ rfl rfl)) (simL_cons (sim_C (fn := .swhole_power_) rfl h_swhole_power ⟨rfl, rfl, rfl⟩ ok co (simL_cons (sim_V 3 rfl ⟨rfl, rfl, rfl⟩ rfl rfl) (simL_cons (sim_V 1 rfl ⟨rfl, rfl, rfl⟩ rfl rfl) simL_nil rfl) rfl) rfl rfl rfl rfl) simL_nil rfl) rfl)))
    sim_bNil) sim_bNil)
    (sim_bCons (sim_kRet (sim_Tup (simL_cons (sim_Bin (sim_V 2 rfl ⟨rfl, rfl, rfl⟩ rfl rfl) (sim_V 1 rfl ⟨rfl, rfl, rfl⟩ rfl rfl)) (simL_cons (sim_C (fn := .sscale_) rfl h_sscale ⟨rfl, rfl, rfl⟩ ok co (simL_cons (sim_V 4 rfl ⟨rfl, rfl, rfl⟩ rfl rfl) (simL_cons (sim_C (fn := .spower_) rfl h_spower ⟨rfl, rfl, rfl⟩ ok co (simL_cons (sim_C (fn := .sscale_) rfl h_sscale ⟨rfl, rfl, rfl⟩ ok co (simL_cons (sim_C (fn := .rdiv_) rfl h_rdiv ⟨rfl, rfl, rfl⟩ ok co (simL_cons (sim_G ⟨rfl, rfl, rfl⟩ ok co (x := "R1") (.tail _ (.head _)) rfl rfl) (simL_cons (sim_It (sim_V 3 rfl ⟨rfl, rfl, rfl⟩ rfl rfl) sim_K_int (fun _ _ => ⟨_, rfl⟩)) simL_nil rfl) rfl) rfl rfl rfl rfl) (simL_cons (sim_V 3 rfl ⟨rfl, rfl, rfl⟩ rfl rfl) simL_nil rfl) rfl) rfl rfl rfl rfl) (simL_cons (sim_Tup (simL_cons (sim_V 1 rfl ⟨rfl, rfl, rfl⟩ rfl rfl) (simL_cons sim_K_int simL_nil rfl) rfl)) simL_nil rfl) rfl) rfl rfl rfl rfl) simL_nil rfl) rfl) rfl rfl rfl rfl) simL_nil rfl) rfl)))
    sim_bNil))))))
theorem spec_lpower {g_lpower g_linverse g_ltrim g_rpower g_swhole_power g_sscale g_spower g_rdiv : List D → R D} (ok : G.OK) (fk : FlyOK G) (hd : DefAt G .lpower_ (fArgs (stAt 45)) (fBody (stAt 45)) (fScope (stAt 45))) (h_lpower : Spec G n .lpower_ g_lpower) (h_linverse : Spec G n .linverse_ g_linverse) (h_ltrim : Spec G n .ltrim_ g_ltrim) (h_rpower : Spec G n .rpower_ g_rpower) (h_swhole_power : Spec G n .swhole_power_ g_swhole_power) (h_sscale : Spec G n .sscale_ g_sscale) (h_spower : Spec G n .spower_ g_spower) (h_rdiv : Spec G n .rdiv_ g_rdiv) : Spec G (n + 1) .lpower_ (fnD 2 3 (b_lpower g_lpower g_linverse g_ltrim g_rpower g_swhole_power g_sscale g_spower g_rdiv)) :=
  spec_of (ps := [nm "a", nm "many"]) (locs := [nm "low", nm "rest", nm "first"]) ok fk hd rfl rfl rfl (fun vs h => match vs, h with | [_, _], _ => fun _ _ _ _ => rfl) (by decide) (by decide) fun c L a cd _ co fr => body_lpower ok h_lpower h_linverse h_ltrim h_rpower h_swhole_power h_sscale h_spower h_rdiv c L a cd co fr
theorem body_lcut {g_ltrim : List D → R D} (ok : G.OK) (hraise : ∀ (c : Act) (L a : Addr) (cd : Value), c.OK G n → Frm c (envOfC (Str.ofString (fnStr .lcut_)) (fScope (stAt 46)) L a cd) ([nm "a", nm "end"] ++ [nm "low", nm "rest"]) → SSim G c (envOfC (Str.ofString (fnStr .lcut_)) (fScope (stAt 46)) L a cd) ([nm "a", nm "end"] ++ [nm "low", nm "rest"]) raiseS kRz) (h_ltrim : Spec G n .ltrim_ g_ltrim) (c : Act) (L a : Addr) (cd : Value) (co : c.OK G n) (fr : Frm c (envOfC (Str.ofString (fnStr .lcut_)) (fScope (stAt 46)) L a cd) ([nm "a", nm "end"] ++ [nm "low", nm "rest"])) :
    BSim G c (envOfC (Str.ofString (fnStr .lcut_)) (fScope (stAt 46)) L a cd) ([nm "a", nm "end"] ++ [nm "low", nm "rest"]) (fBody (stAt 46)) (b_lcut g_ltrim) :=
  (sim_bCons (sim_kUn co fr rfl rfl (by first | exact .inl rfl | exact .inr ⟨rfl, rfl⟩) (by first | exact .inl rfl | exact .inr ⟨rfl, rfl⟩) (sim_C (fn := .ltrim_) rfl h_ltrim ⟨rfl, rfl, rfl⟩ ok co (simL_cons (sim_V 0 rfl ⟨rfl, rfl, rfl⟩ rfl rfl) simL_nil rfl) rfl rfl rfl rfl) rfl rfl)
    (sim_bCons (sim_kIf (simT_And (simT_Cmp co (sim_B (x := "len") b_len (.tail _ (.head _)) how_builtin ⟨rfl, rfl, rfl⟩ ok co (simL_cons (sim_V 3 rfl ⟨rfl, rfl, rfl⟩ rfl rfl) simL_nil rfl) rfl rfl rfl rfl rfl) sim_K_int rfl) (simT_And (simT_Cmp co (sim_V 2 rfl ⟨rfl, rfl, rfl⟩ rfl rfl) sim_K_int rfl) simT_AndNil)) (sim_bCons (hraise c L a cd co fr)
    sim_bNil) sim_bNil)
    (sim_bCons (sim_kIf (simT_Cmp co (sim_Bin (sim_V 2 rfl ⟨rfl, rfl, rfl⟩ rfl rfl) (sim_B (x := "len") b_len (.tail _ (.head _)) how_builtin ⟨rfl, rfl, rfl⟩ ok co (simL_cons (sim_V 3 rfl ⟨rfl, rfl, rfl⟩ rfl rfl) simL_nil rfl) rfl rfl rfl rfl rfl)) (sim_V 1 rfl ⟨rfl, rfl, rfl⟩ rfl rfl) rfl) (sim_bCons (sim_kRet sim_K_none)
    sim_bNil) sim_bNil)
    (sim_bCons (sim_kRet (sim_If (simT_Cmp co (sim_V 2 rfl ⟨rfl, rfl, rfl⟩ rfl rfl) sim_K_int rfl) (sim_SlTo (sim_Bin (sim_Bin (sim_Lst (simL_cons (sim_G ⟨rfl, rfl, rfl⟩ ok co (x := "R0") (.head _) rfl rfl) simL_nil rfl)) (sim_B (x := "min") b_min (.tail _ (.tail _ (.head _))) how_builtin ⟨rfl, rfl, rfl⟩ ok co (simL_cons (sim_V 2 rfl ⟨rfl, rfl, rfl⟩ rfl rfl) (simL_cons (sim_V 1 rfl ⟨rfl, rfl, rfl⟩ rfl rfl) simL_nil rfl) rfl) rfl rfl rfl rfl rfl)) (sim_V 3 rfl ⟨rfl, rfl, rfl⟩ rfl rfl)) (sim_V 1 rfl ⟨rfl, rfl, rfl⟩ rfl rfl) (fun _ _ => ⟨_, rfl⟩)) (sim_Bin (sim_Lst (simL_cons (sim_G ⟨rfl, rfl, rfl⟩ ok co (x := "R0") (.head _) rfl rfl) simL_nil rfl)) (sim_V 1 rfl ⟨rfl, rfl, rfl⟩ rfl rfl))))
    sim_bNil))))
theorem spec_lcut {g_ltrim : List D → R D} (ok : G.OK) (fk : FlyOK G) (hd : DefAt G .lcut_ (fArgs (stAt 46)) (fBody (stAt 46)) (fScope (stAt 46))) (hraise : ∀ (c : Act) (L a : Addr) (cd : Value), c.OK G n → Frm c (envOfC (Str.ofString (fnStr .lcut_)) (fScope (stAt 46)) L a cd) ([nm "a", nm "end"] ++ [nm "low", nm "rest"]) → SSim G c (envOfC (Str.ofString (fnStr .lcut_)) (fScope (stAt 46)) L a cd) ([nm "a", nm "end"] ++ [nm "low", nm "rest"]) raiseS kRz) (h_ltrim : Spec G n .ltrim_ g_ltrim) : Spec G (n + 1) .lcut_ (fnD 2 2 (b_lcut g_ltrim)) :=
  spec_of (ps := [nm "a", nm "end"]) (locs := [nm "low", nm "rest"]) ok fk hd rfl rfl rfl (fun vs h => match vs, h with | [_, _], _ => fun _ _ _ _ => rfl) (by decide) (by decide) fun c L a cd _ co fr => body_lcut ok hraise h_ltrim c L a cd co fr
theorem body_exact_root {g_root_of : List D → R D} (ok : G.OK) (h_root_of : Spec G n .root_of_ g_root_of) (c : Act) (L a : Addr) (cd : Value) (co : c.OK G n) (fr : Frm c (envOfC (Str.ofString (fnStr .exact_root_)) (fScope (stAt 49)) L a cd) ([nm "number", nm "many"] ++ [nm "top", nm "bottom"])) :
    BSim G c (envOfC (Str.ofString (fnStr .exact_root_)) (fScope (stAt 49)) L a cd) ([nm "number", nm "many"] ++ [nm "top", nm "bottom"]) (fBody (stAt 49)) (b_exact_root g_root_of) :=
  (sim_bCons (sim_kMu co fr rfl rfl (by first | exact .inl rfl | exact .inr ⟨rfl, rfl⟩) (by first | exact .inl rfl | exact .inr ⟨rfl, rfl⟩) (simL_cons (sim_C (fn := .root_of_) rfl h_root_of ⟨rfl, rfl, rfl⟩ ok co (simL_cons (sim_It (sim_V 0 rfl ⟨rfl, rfl, rfl⟩ rfl rfl) sim_K_int (fun _ _ => ⟨_, rfl⟩)) (simL_cons (sim_V 1 rfl ⟨rfl, rfl, rfl⟩ rfl rfl) simL_nil rfl) rfl) rfl rfl rfl rfl) (simL_cons (sim_C (fn := .root_of_) rfl h_root_of ⟨rfl, rfl, rfl⟩ ok co (simL_cons (sim_It (sim_V 0 rfl ⟨rfl, rfl, rfl⟩ rfl rfl) sim_K_int (fun _ _ => ⟨_, rfl⟩)) (simL_cons (sim_V 1 rfl ⟨rfl, rfl, rfl⟩ rfl rfl) simL_nil rfl) rfl) rfl rfl rfl rfl) simL_nil rfl) rfl) rfl rfl)
    (sim_bCons (sim_kRet (sim_If (simT_And (simT_Cmp co (sim_Bin (sim_V 2 rfl ⟨rfl, rfl, rfl⟩ rfl rfl) (sim_V 1 rfl ⟨rfl, rfl, rfl⟩ rfl rfl)) (sim_It (sim_V 0 rfl ⟨rfl, rfl, rfl⟩ rfl rfl) sim_K_int (fun _ _ => ⟨_, rfl⟩)) rfl) (simT_And (simT_Cmp co (sim_Bin (sim_V 3 rfl ⟨rfl, rfl, rfl⟩ rfl rfl) (sim_V 1 rfl ⟨rfl, rfl, rfl⟩ rfl rfl)) (sim_It (sim_V 0 rfl ⟨rfl, rfl, rfl⟩ rfl rfl) sim_K_int (fun _ _ => ⟨_, rfl⟩)) rfl) simT_AndNil)) (sim_Tup (simL_cons (sim_V 2 rfl ⟨rfl, rfl, rfl⟩ rfl rfl) (simL_cons (sim_V 3 rfl ⟨rfl, rfl, rfl⟩ rfl rfl) simL_nil rfl) rfl)) sim_K_none))
    sim_bNil))
theorem spec_exact_root {g_root_of : List D → R D} (ok : G.OK) (fk : FlyOK G) (hd : DefAt G .exact_root_ (fArgs (stAt 49)) (fBody (stAt 49)) (fScope (stAt 49))) (h_root_of : Spec G n .root_of_ g_root_of) : Spec G (n + 1) .exact_root_ (fnD 2 2 (b_exact_root g_root_of)) :=
  spec_of (ps := [nm "number", nm "many"]) (locs := [nm "top", nm "bottom"]) ok fk hd rfl rfl rfl (fun vs h => match vs, h with | [_, _], _ => fun _ _ _ _ => rfl) (by decide) (by decide) fun c L a cd _ co fr => body_exact_root ok h_root_of c L a cd co fr
theorem body_from_zero {g_ltrim : List D → R D} (ok : G.OK) (h_ltrim : Spec G n .ltrim_ g_ltrim) (c : Act) (L a : Addr) (cd : Value) (co : c.OK G n) (fr : Frm c (envOfC (Str.ofString (fnStr .from_zero_)) (fScope (stAt 50)) L a cd) ([nm "told", nm "many"] ++ [nm "low", nm "rest"])) :
    BSim G c (envOfC (Str.ofString (fnStr .from_zero_)) (fScope (stAt 50)) L a cd) ([nm "told", nm "many"] ++ [nm "low", nm "rest"]) (fBody (stAt 50)) (b_from_zero g_ltrim) :=
  (sim_bCons (sim_kUn co fr rfl rfl (by first | exact .inl rfl | exact .inr ⟨rfl, rfl⟩) (by first | exact .inl rfl | exact .inr ⟨rfl, rfl⟩) (sim_C (fn := .ltrim_) rfl h_ltrim ⟨rfl, rfl, rfl⟩ ok co (simL_cons (sim_V 0 rfl ⟨rfl, rfl, rfl⟩ rfl rfl) simL_nil rfl) rfl rfl rfl rfl) rfl rfl)
    (sim_bCons (sim_kIf (simT_And (simT_Cmp co (sim_B (x := "len") b_len (.tail _ (.head _)) how_builtin ⟨rfl, rfl, rfl⟩ ok co (simL_cons (sim_V 3 rfl ⟨rfl, rfl, rfl⟩ rfl rfl) simL_nil rfl) rfl rfl rfl rfl rfl) sim_K_int rfl) (simT_And (simT_Cmp co (sim_V 2 rfl ⟨rfl, rfl, rfl⟩ rfl rfl) sim_K_int rfl) simT_AndNil)) (sim_bCons sim_kNo
    sim_bNil) sim_bNil)
    (sim_bCons (sim_kIf (simT_Cmp co (sim_V 2 rfl ⟨rfl, rfl, rfl⟩ rfl rfl) sim_K_int rfl) (sim_bCons sim_kNo
    sim_bNil) sim_bNil)
    (sim_bCons (sim_kRet (sim_If (simT_Cmp co (sim_V 2 rfl ⟨rfl, rfl, rfl⟩ rfl rfl) (sim_V 1 rfl ⟨rfl, rfl, rfl⟩ rfl rfl) rfl) (sim_Bin (sim_Lst (simL_cons (sim_G ⟨rfl, rfl, rfl⟩ ok co (x := "R0") (.head _) rfl rfl) simL_nil rfl)) (sim_V 1 rfl ⟨rfl, rfl, rfl⟩ rfl rfl)) (sim_Bin (sim_Bin (sim_Lst (simL_cons (sim_G ⟨rfl, rfl, rfl⟩ ok co (x := "R0") (.head _) rfl rfl) simL_nil rfl)) (sim_V 2 rfl ⟨rfl, rfl, rfl⟩ rfl rfl)) (sim_V 3 rfl ⟨rfl, rfl, rfl⟩ rfl rfl))))
    sim_bNil))))
theorem spec_from_zero {g_ltrim : List D → R D} (ok : G.OK) (fk : FlyOK G) (hd : DefAt G .from_zero_ (fArgs (stAt 50)) (fBody (stAt 50)) (fScope (stAt 50))) (h_ltrim : Spec G n .ltrim_ g_ltrim) : Spec G (n + 1) .from_zero_ (fnD 2 2 (b_from_zero g_ltrim)) :=
  spec_of (ps := [nm "told", nm "many"]) (locs := [nm "low", nm "rest"]) ok fk hd rfl rfl rfl (fun vs h => match vs, h with | [_, _], _ => fun _ _ _ _ => rfl) (by decide) (by decide) fun c L a cd _ co fr => body_from_zero ok h_ltrim c L a cd co fr
theorem body_of_call {g_ltrim g_from_zero g_sexp g_slog g_ssin g_lmul g_lpower : List D → R D} (ok : G.OK) (h_ltrim : Spec G n .ltrim_ g_ltrim) (h_from_zero : Spec G n .from_zero_ g_from_zero) (h_sexp : Spec G n .sexp_ g_sexp) (h_slog : Spec G n .slog_ g_slog) (h_ssin : Spec G n .ssin_ g_ssin) (h_lmul : Spec G n .lmul_ g_lmul) (h_lpower : Spec G n .lpower_ g_lpower) (c : Act) (L a : Addr) (cd : Value) (co : c.OK G n) (fr : Frm c (envOfC (Str.ofString (fnStr .of_call_)) (fScope (stAt 51)) L a cd) ([nm "name", nm "told", nm "many"] ++ [nm "low", nm "rest", nm "inner"])) :
    BSim G c (envOfC (Str.ofString (fnStr .of_call_)) (fScope (stAt 51)) L a cd) ([nm "name", nm "told", nm "many"] ++ [nm "low", nm "rest", nm "inner"]) (fBody (stAt 51)) (b_of_call g_ltrim g_from_zero g_sexp g_slog g_ssin g_lmul g_lpower) :=
  (sim_bCons (sim_kUn co fr rfl rfl (by first | exact .inl rfl | exact .inr ⟨rfl, rfl⟩) (by first | exact .inl rfl | exact .inr ⟨rfl, rfl⟩) (sim_C (fn := .ltrim_) rfl h_ltrim ⟨rfl, rfl, rfl⟩ ok co (simL_cons (sim_V 1 rfl ⟨rfl, rfl, rfl⟩ rfl rfl) simL_nil rfl) rfl rfl rfl rfl) rfl rfl)
    (sim_bCons (sim_kIf (simT_And (simT_Cmp co (sim_V 3 rfl ⟨rfl, rfl, rfl⟩ rfl rfl) (sim_V 2 rfl ⟨rfl, rfl, rfl⟩ rfl rfl) rfl) (simT_And (simT_Cmp co (sim_V 0 rfl ⟨rfl, rfl, rfl⟩ rfl rfl) (sim_Tup (simL_cons (sim_K_str 7 (by decide) rfl) (simL_cons (sim_K_str 8 (by decide) rfl) (simL_cons (sim_K_str 9 (by decide) rfl) simL_nil rfl) rfl) rfl)) rfl) simT_AndNil)) (sim_bCons (sim_kRet (sim_Tup (simL_cons (sim_V 3 rfl ⟨rfl, rfl, rfl⟩ rfl rfl) (simL_cons (sim_SlTo (sim_V 4 rfl ⟨rfl, rfl, rfl⟩ rfl rfl) (sim_Bin sim_K_int (sim_V 3 rfl ⟨rfl, rfl, rfl⟩ rfl rfl)) (fun _ _ => ⟨_, rfl⟩)) simL_nil rfl) rfl)))
    sim_bNil) sim_bNil)
    (sim_bCons (sim_kAs fr rfl (by first | exact .inl rfl | exact .inr ⟨rfl, rfl⟩) (sim_C (fn := .from_zero_) rfl h_from_zero ⟨rfl, rfl, rfl⟩ ok co (simL_cons (sim_V 1 rfl ⟨rfl, rfl, rfl⟩ rfl rfl) (simL_cons (sim_V 2 rfl ⟨rfl, rfl, rfl⟩ rfl rfl) simL_nil rfl) rfl) rfl rfl rfl rfl) rfl)
    (sim_bCons (sim_kIf (simT_Cmp co (sim_V 0 rfl ⟨rfl, rfl, rfl⟩ rfl rfl) (sim_K_str 10 (by decide) rfl) rfl) (sim_bCons (sim_kRet (sim_Tup (simL_cons sim_K_int (simL_cons (sim_C (fn := .sexp_) rfl h_sexp ⟨rfl, rfl, rfl⟩ ok co (simL_cons (sim_V 5 rfl ⟨rfl, rfl, rfl⟩ rfl rfl) simL_nil rfl) rfl rfl rfl rfl) simL_nil rfl) rfl)))
    sim_bNil) sim_bNil)
    (sim_bCons (sim_kIf (simT_Cmp co (sim_V 0 rfl ⟨rfl, rfl, rfl⟩ rfl rfl) (sim_K_str 11 (by decide) rfl) rfl) (sim_bCons (sim_kRet (sim_Tup (simL_cons sim_K_int (simL_cons (sim_C (fn := .slog_) rfl h_slog ⟨rfl, rfl, rfl⟩ ok co (simL_cons (sim_V 5 rfl ⟨rfl, rfl, rfl⟩ rfl rfl) simL_nil rfl) rfl rfl rfl rfl) simL_nil rfl) rfl)))
    sim_bNil) sim_bNil)
    (sim_bCons (sim_kIf (simT_Cmp co (sim_V 0 rfl ⟨rfl, rfl, rfl⟩ rfl rfl) (sim_K_str 7 (by decide) rfl) rfl) (sim_bCons (sim_kRet (sim_Tup (simL_cons sim_K_int (simL_cons (sim_C (fn := .ssin_) rfl h_ssin ⟨rfl, rfl, rfl⟩ ok co (simL_cons (sim_V 5 rfl ⟨rfl, rfl, rfl⟩ rfl rfl) simL_nil rfl) rfl rfl rfl rfl) simL_nil rfl) rfl)))
    sim_bNil) sim_bNil)
    (sim_bCons (sim_kIf (simT_Cmp co (sim_V 0 rfl ⟨rfl, rfl, rfl⟩ rfl rfl) (sim_K_str 12 (by decide) rfl) rfl) (sim_bCons (sim_kRet (sim_Tup (simL_cons sim_K_int (simL_cons sim_cX simL_nil rfl) rfl)))
    sim_bNil) sim_bNil)
    (sim_bCons (sim_kIf (simT_Cmp co (sim_V 0 rfl ⟨rfl, rfl, rfl⟩ rfl rfl) (sim_K_str 8 (by decide) rfl) rfl) (sim_bCons (sim_kRet (sim_C (fn := .lmul_) rfl h_lmul ⟨rfl, rfl, rfl⟩ ok co (simL_cons (sim_Tup (simL_cons sim_K_int (simL_cons (sim_C (fn := .ssin_) rfl h_ssin ⟨rfl, rfl, rfl⟩ ok co (simL_cons (sim_V 5 rfl ⟨rfl, rfl, rfl⟩ rfl rfl) simL_nil rfl) rfl rfl rfl rfl) simL_nil rfl) rfl)) (simL_cons (sim_C (fn := .lpower_) rfl h_lpower ⟨rfl, rfl, rfl⟩ ok co (simL_cons (sim_Tup (simL_cons sim_K_int (simL_cons sim_cX simL_nil rfl) rfl)) (simL_cons sim_neg simL_nil rfl) rfl) rfl rfl rfl rfl) simL_nil rfl) rfl) rfl rfl rfl rfl))
    sim_bNil) sim_bNil)
    (sim_bCons (sim_kIf (simT_Cmp co (sim_V 0 rfl ⟨rfl, rfl, rfl⟩ rfl rfl) (sim_K_str 9 (by decide) rfl) rfl) (sim_bCons (sim_kRet (sim_Tup (simL_cons sim_K_int (simL_cons sim_cX simL_nil rfl) rfl)))
    sim_bNil) sim_bNil)
    (sim_bCons sim_kNo
    sim_bNil))))))))))
theorem spec_of_call {g_ltrim g_from_zero g_sexp g_slog g_ssin g_lmul g_lpower : List D → R D} (ok : G.OK) (fk : FlyOK G) (hd : DefAt G .of_call_ (fArgs (stAt 51)) (fBody (stAt 51)) (fScope (stAt 51))) (h_ltrim : Spec G n .ltrim_ g_ltrim) (h_from_zero : Spec G n .from_zero_ g_from_zero) (h_sexp : Spec G n .sexp_ g_sexp) (h_slog : Spec G n .slog_ g_slog) (h_ssin : Spec G n .ssin_ g_ssin) (h_lmul : Spec G n .lmul_ g_lmul) (h_lpower : Spec G n .lpower_ g_lpower) : Spec G (n + 1) .of_call_ (fnD 3 3 (b_of_call g_ltrim g_from_zero g_sexp g_slog g_ssin g_lmul g_lpower)) :=
  spec_of (ps := [nm "name", nm "told", nm "many"]) (locs := [nm "low", nm "rest", nm "inner"]) ok fk hd rfl rfl rfl (fun vs h => match vs, h with | [_, _, _], _ => fun _ _ _ _ => rfl) (by decide) (by decide) fun c L a cd _ co fr => body_of_call ok h_ltrim h_from_zero h_sexp h_slog h_ssin h_lmul h_lpower c L a cd co fr
theorem body_of_root {g_ltrim g_exact_root g_rdiv g_rpower g_sscale g_spower : List D → R D} (ok : G.OK) (h_ltrim : Spec G n .ltrim_ g_ltrim) (h_exact_root : Spec G n .exact_root_ g_exact_root) (h_rdiv : Spec G n .rdiv_ g_rdiv) (h_rpower : Spec G n .rpower_ g_rpower) (h_sscale : Spec G n .sscale_ g_sscale) (h_spower : Spec G n .spower_ g_spower) (c : Act) (L a : Addr) (cd : Value) (co : c.OK G n) (fr : Frm c (envOfC (Str.ofString (fnStr .of_root_)) (fScope (stAt 52)) L a cd) ([nm "told", nm "number"] ++ [nm "low", nm "rest", nm "first", nm "begin"])) :
    BSim G c (envOfC (Str.ofString (fnStr .of_root_)) (fScope (stAt 52)) L a cd) ([nm "told", nm "number"] ++ [nm "low", nm "rest", nm "first", nm "begin"]) (fBody (stAt 52)) (b_of_root g_ltrim g_exact_root g_rdiv g_rpower g_sscale g_spower) :=
  (sim_bCons (sim_kUn co fr rfl rfl (by first | exact .inl rfl | exact .inr ⟨rfl, rfl⟩) (by first | exact .inl rfl | exact .inr ⟨rfl, rfl⟩) (sim_C (fn := .ltrim_) rfl h_ltrim ⟨rfl, rfl, rfl⟩ ok co (simL_cons (sim_V 0 rfl ⟨rfl, rfl, rfl⟩ rfl rfl) simL_nil rfl) rfl rfl rfl rfl) rfl rfl)
    (sim_bCons (sim_kIf (simT_Cmp co (sim_B (x := "len") b_len (.tail _ (.head _)) how_builtin ⟨rfl, rfl, rfl⟩ ok co (simL_cons (sim_V 3 rfl ⟨rfl, rfl, rfl⟩ rfl rfl) simL_nil rfl) rfl rfl rfl rfl rfl) sim_K_int rfl) (sim_bCons sim_kNo
    sim_bNil) sim_bNil)
    (sim_bCons (sim_kIf (simT_Or (simT_Cmp co (sim_Bin (sim_Bin (sim_V 2 rfl ⟨rfl, rfl, rfl⟩ rfl rfl) (sim_It (sim_V 1 rfl ⟨rfl, rfl, rfl⟩ rfl rfl) sim_K_int (fun _ _ => ⟨_, rfl⟩))) (sim_It (sim_V 1 rfl ⟨rfl, rfl, rfl⟩ rfl rfl) sim_K_int (fun _ _ => ⟨_, rfl⟩))) sim_K_int rfl) (simT_Or (simT_Cmp co (sim_It (sim_It (sim_V 3 rfl ⟨rfl, rfl, rfl⟩ rfl rfl) sim_K_int (fun _ _ => ⟨_, rfl⟩)) sim_K_int (fun _ _ => ⟨_, rfl⟩)) sim_K_int rfl) simT_OrNil)) (sim_bCons sim_kNo
    sim_bNil) sim_bNil)
    (sim_bCons (sim_kAs fr rfl (by first | exact .inl rfl | exact .inr ⟨rfl, rfl⟩) (sim_C (fn := .exact_root_) rfl h_exact_root ⟨rfl, rfl, rfl⟩ ok co (simL_cons (sim_It (sim_V 3 rfl ⟨rfl, rfl, rfl⟩ rfl rfl) sim_K_int (fun _ _ => ⟨_, rfl⟩)) (simL_cons (sim_It (sim_V 1 rfl ⟨rfl, rfl, rfl⟩ rfl rfl) sim_K_int (fun _ _ => ⟨_, rfl⟩)) simL_nil rfl) rfl) rfl rfl rfl rfl) rfl)
    (sim_bCons (sim_kIf (simT_Cmp co (sim_V 4 rfl ⟨rfl, rfl, rfl⟩ rfl rfl) sim_K_none rfl) (sim_bCons sim_kNo
    sim_bNil) sim_bNil)
    (sim_bCons (sim_kIf (simT_Cmp co (sim_It (sim_V 1 rfl ⟨rfl, rfl, rfl⟩ rfl rfl) sim_K_int (fun _ _ => ⟨_, rfl⟩)) sim_K_int rfl) (sim_bCons (sim_kAs fr rfl (by first | exact .inl rfl | exact .inr ⟨rfl, rfl⟩) (sim_C (fn := .rdiv_) rfl h_rdiv ⟨rfl, rfl, rfl⟩ ok co (simL_cons (sim_G ⟨rfl, rfl, rfl⟩ ok co (x := "R1") (.tail _ (.head _)) rfl rfl) (simL_cons (sim_V 4 rfl ⟨rfl, rfl, rfl⟩ rfl rfl) simL_nil rfl) rfl) rfl rfl rfl rfl) rfl)
    sim_bNil) sim_bNil)
    (sim_bCons (sim_kAs fr rfl (by first | exact .inl rfl | exact .inr ⟨rfl, rfl⟩) (sim_C (fn := .rpower_) rfl h_rpower ⟨rfl, rfl, rfl⟩ ok co (simL_cons (sim_V 4 rfl ⟨rfl, rfl, rfl⟩ rfl rfl) (simL_cons (sim_B (x := "abs") b_abs (.head _) how_builtin ⟨rfl, rfl, rfl⟩ ok co (simL_cons (sim_It (sim_V 1 rfl ⟨rfl, rfl, rfl⟩ rfl rfl) sim_K_int (fun _ _ => ⟨_, rfl⟩)) simL_nil rfl) rfl rfl rfl rfl rfl) simL_nil rfl) rfl) rfl rfl rfl rfl) rfl)
    (sim_bCons (sim_kRet (sim_Tup (simL_cons (sim_Bin (sim_Bin (sim_V 2 rfl ⟨rfl, rfl, rfl⟩ rfl rfl) (sim_It (sim_V 1 rfl ⟨rfl, rfl, rfl⟩ rfl rfl) sim_K_int (fun _ _ => ⟨_, rfl⟩))) (sim_It (sim_V 1 rfl ⟨rfl, rfl, rfl⟩ rfl rfl) sim_K_int (fun _ _ => ⟨_, rfl⟩))) (simL_cons (sim_C (fn := .sscale_) rfl h_sscale ⟨rfl, rfl, rfl⟩ ok co (simL_cons (sim_V 5 rfl ⟨rfl, rfl, rfl⟩ rfl rfl) (simL_cons (sim_C (fn := .spower_) rfl h_spower ⟨rfl, rfl, rfl⟩ ok co (simL_cons (sim_C (fn := .sscale_) rfl h_sscale ⟨rfl, rfl, rfl⟩ ok co (simL_cons (sim_C (fn := .rdiv_) rfl h_rdiv ⟨rfl, rfl, rfl⟩ ok co (simL_cons (sim_G ⟨rfl, rfl, rfl⟩ ok co (x := "R1") (.tail _ (.head _)) rfl rfl) (simL_cons (sim_It (sim_V 3 rfl ⟨rfl, rfl, rfl⟩ rfl rfl) sim_K_int (fun _ _ => ⟨_, rfl⟩)) simL_nil rfl) rfl) rfl rfl rfl rfl) (simL_cons (sim_V 3 rfl ⟨rfl, rfl, rfl⟩ rfl rfl) simL_nil rfl) rfl) rfl rfl rfl rfl) (simL_cons (sim_V 1 rfl ⟨rfl, rfl, rfl⟩ rfl rfl) simL_nil rfl) rfl) rfl rfl rfl rfl) simL_nil rfl) rfl) rfl rfl rfl rfl) simL_nil rfl) rfl)))
    sim_bNil))))))))
theorem spec_of_root {g_ltrim g_exact_root g_rdiv g_rpower g_sscale g_spower : List D → R D} (ok : G.OK) (fk : FlyOK G) (hd : DefAt G .of_root_ (fArgs (stAt 52)) (fBody (stAt 52)) (fScope (stAt 52))) (h_ltrim : Spec G n .ltrim_ g_ltrim) (h_exact_root : Spec G n .exact_root_ g_exact_root) (h_rdiv : Spec G n .rdiv_ g_rdiv) (h_rpower : Spec G n .rpower_ g_rpower) (h_sscale : Spec G n .sscale_ g_sscale) (h_spower : Spec G n .spower_ g_spower) : Spec G (n + 1) .of_root_ (fnD 2 4 (b_of_root g_ltrim g_exact_root g_rdiv g_rpower g_sscale g_spower)) :=
  spec_of (ps := [nm "told", nm "number"]) (locs := [nm "low", nm "rest", nm "first", nm "begin"]) ok fk hd rfl rfl rfl (fun vs h => match vs, h with | [_, _], _ => fun _ _ _ _ => rfl) (by decide) (by decide) fun c L a cd _ co fr => body_of_root ok h_ltrim h_exact_root h_rdiv h_rpower h_sscale h_spower c L a cd co fr
theorem body_of_power {g_of_term g_lpower g_of_root : List D → R D} (ok : G.OK) (h_of_term : Spec G n .of_term_ g_of_term) (h_lpower : Spec G n .lpower_ g_lpower) (h_of_root : Spec G n .of_root_ g_of_root) (c : Act) (L a : Addr) (cd : Value) (co : c.OK G n) (fr : Frm c (envOfC (Str.ofString (fnStr .of_power_)) (fScope (stAt 53)) L a cd) ([nm "base", nm "exponent", nm "many", nm "letter"] ++ [nm "told"])) :
    BSim G c (envOfC (Str.ofString (fnStr .of_power_)) (fScope (stAt 53)) L a cd) ([nm "base", nm "exponent", nm "many", nm "letter"] ++ [nm "told"]) (fBody (stAt 53)) (b_of_power g_of_term g_lpower g_of_root) :=
  (sim_bCons (sim_kIf (simT_Cmp co (sim_It (sim_V 1 rfl ⟨rfl, rfl, rfl⟩ rfl rfl) sim_K_int (fun _ _ => ⟨_, rfl⟩)) (sim_K_str 0 (by decide) rfl) rfl) (sim_bCons sim_kNo
    sim_bNil) sim_bNil)
    (sim_bCons (sim_kIf (simT_And (simT_Cmp co (sim_V 0 rfl ⟨rfl, rfl, rfl⟩ rfl rfl) (sim_Tup (simL_cons (sim_K_str 0 (by decide) rfl) (simL_cons sim_K_int (simL_cons sim_K_int simL_nil rfl) rfl) rfl)) rfl) (simT_And (simT_Cmp co (sim_It (sim_V 1 rfl ⟨rfl, rfl, rfl⟩ rfl rfl) sim_K_int (fun _ _ => ⟨_, rfl⟩)) sim_K_int rfl) simT_AndNil)) (sim_bCons sim_kNo
    sim_bNil) sim_bNil)
    (sim_bCons (sim_kAs fr rfl (by first | exact .inl rfl | exact .inr ⟨rfl, rfl⟩) (sim_C (fn := .of_term_) rfl h_of_term ⟨rfl, rfl, rfl⟩ ok co (simL_cons (sim_V 0 rfl ⟨rfl, rfl, rfl⟩ rfl rfl) (simL_cons (sim_V 2 rfl ⟨rfl, rfl, rfl⟩ rfl rfl) (simL_cons (sim_V 3 rfl ⟨rfl, rfl, rfl⟩ rfl rfl) simL_nil rfl) rfl) rfl) rfl rfl rfl rfl) rfl)
    (sim_bCons (sim_kIf (simT_Cmp co (sim_It (sim_V 1 rfl ⟨rfl, rfl, rfl⟩ rfl rfl) sim_K_int (fun _ _ => ⟨_, rfl⟩)) sim_K_int rfl) (sim_bCons (sim_kRet (sim_C (fn := .lpower_) rfl h_lpower ⟨rfl, rfl, rfl⟩ ok co (simL_cons (sim_V 4 rfl ⟨rfl, rfl, rfl⟩ rfl rfl) (simL_cons (sim_It (sim_V 1 rfl ⟨rfl, rfl, rfl⟩ rfl rfl) sim_K_int (fun _ _ => ⟨_, rfl⟩)) simL_nil rfl) rfl) rfl rfl rfl rfl))
    sim_bNil) sim_bNil)
    (sim_bCons (sim_kRet (sim_C (fn := .of_root_) rfl h_of_root ⟨rfl, rfl, rfl⟩ ok co (simL_cons (sim_V 4 rfl ⟨rfl, rfl, rfl⟩ rfl rfl) (simL_cons (sim_Tup (simL_cons (sim_It (sim_V 1 rfl ⟨rfl, rfl, rfl⟩ rfl rfl) sim_K_int (fun _ _ => ⟨_, rfl⟩)) (simL_cons (sim_It (sim_V 1 rfl ⟨rfl, rfl, rfl⟩ rfl rfl) sim_K_int (fun _ _ => ⟨_, rfl⟩)) simL_nil rfl) rfl)) simL_nil rfl) rfl) rfl rfl rfl rfl))
    sim_bNil)))))
theorem spec_of_power {g_of_term g_lpower g_of_root : List D → R D} (ok : G.OK) (fk : FlyOK G) (hd : DefAt G .of_power_ (fArgs (stAt 53)) (fBody (stAt 53)) (fScope (stAt 53))) (h_of_term : Spec G n .of_term_ g_of_term) (h_lpower : Spec G n .lpower_ g_lpower) (h_of_root : Spec G n .of_root_ g_of_root) : Spec G (n + 1) .of_power_ (fnD 4 1 (b_of_power g_of_term g_lpower g_of_root)) :=
  spec_of (ps := [nm "base", nm "exponent", nm "many", nm "letter"]) (locs := [nm "told"]) ok fk hd rfl rfl rfl (fun vs h => match vs, h with | [_, _, _, _], _ => fun _ _ _ _ => rfl) (by decide) (by decide) fun c L a cd _ co fr => body_of_power ok h_of_term h_lpower h_of_root c L a cd co fr
theorem body_of_sum {g_lplain g_ladd : List D → R D} (ok : G.OK) (h_lplain : Spec G n .lplain_ g_lplain) (h_ladd : Spec G n .ladd_ g_ladd) (c : Act) (L a : Addr) (cd : Value) (co : c.OK G n) (fr : Frm c (envOfC (Str.ofString (fnStr .of_sum_)) (fScope (stAt 54)) L a cd) ([nm "some", nm "many"] ++ [nm "found", nm "told"])) :
    BSim G c (envOfC (Str.ofString (fnStr .of_sum_)) (fScope (stAt 54)) L a cd) ([nm "some", nm "many"] ++ [nm "found", nm "told"]) (fBody (stAt 54)) (b_of_sum g_lplain g_ladd) :=
  (sim_bCons (sim_kAs fr rfl (by first | exact .inl rfl | exact .inr ⟨rfl, rfl⟩) (sim_If (simT_Cmp co (sim_B (x := "len") b_len (.tail _ (.head _)) how_builtin ⟨rfl, rfl, rfl⟩ ok co (simL_cons (sim_V 0 rfl ⟨rfl, rfl, rfl⟩ rfl rfl) simL_nil rfl) rfl rfl rfl rfl rfl) sim_K_int rfl) (sim_It (sim_V 0 rfl ⟨rfl, rfl, rfl⟩ rfl rfl) sim_K_int (fun _ _ => ⟨_, rfl⟩)) (sim_C (fn := .lplain_) rfl h_lplain ⟨rfl, rfl, rfl⟩ ok co (simL_cons (sim_G ⟨rfl, rfl, rfl⟩ ok co (x := "R0") (.head _) rfl rfl) (simL_cons (sim_V 1 rfl ⟨rfl, rfl, rfl⟩ rfl rfl) simL_nil rfl) rfl) rfl rfl rfl rfl)) rfl)
    (sim_bCons (sim_kFo co fr rfl (by first | exact .inl rfl | exact .inr ⟨rfl, rfl⟩) (simI_S co (sim_SlFrom (k := 1) (sim_V 0 rfl ⟨rfl, rfl, rfl⟩ rfl rfl) (fun _ _ => ⟨_, rfl⟩))) (sim_bCons (sim_kAs fr rfl (by first | exact .inl rfl | exact .inr ⟨rfl, rfl⟩) (sim_C (fn := .ladd_) rfl h_ladd ⟨rfl, rfl, rfl⟩ ok co (simL_cons (sim_V 2 rfl ⟨rfl, rfl, rfl⟩ rfl rfl) (simL_cons (sim_V 3 rfl ⟨rfl, rfl, rfl⟩ rfl rfl) simL_nil rfl) rfl) rfl rfl rfl rfl) rfl)
    sim_bNil) (fun _ => rfl))
    (sim_bCons (sim_kRet (sim_V 2 rfl ⟨rfl, rfl, rfl⟩ rfl rfl))
    sim_bNil)))
theorem spec_of_sum {g_lplain g_ladd : List D → R D} (ok : G.OK) (fk : FlyOK G) (hd : DefAt G .of_sum_ (fArgs (stAt 54)) (fBody (stAt 54)) (fScope (stAt 54))) (h_lplain : Spec G n .lplain_ g_lplain) (h_ladd : Spec G n .ladd_ g_ladd) : Spec G (n + 1) .of_sum_ (fnD 2 2 (b_of_sum g_lplain g_ladd)) :=
  spec_of (ps := [nm "some", nm "many"]) (locs := [nm "found", nm "told"]) ok fk hd rfl rfl rfl (fun vs h => match vs, h with | [_, _], _ => fun _ _ _ _ => rfl) (by decide) (by decide) fun c L a cd _ co fr => body_of_sum ok h_lplain h_ladd c L a cd co fr
theorem body_of_term {g_lplain g_of_power g_of_call g_of_term g_of_sum g_lmul : List D → R D} (ok : G.OK) (h_lplain : Spec G n .lplain_ g_lplain) (h_of_power : Spec G n .of_power_ g_of_power) (h_of_call : Spec G n .of_call_ g_of_call) (h_of_term : Spec G n .of_term_ g_of_term) (h_of_sum : Spec G n .of_sum_ g_of_sum) (h_lmul : Spec G n .lmul_ g_lmul) (c : Act) (L a : Addr) (cd : Value) (co : c.OK G n) (fr : Frm c (envOfC (Str.ofString (fnStr .of_term_)) (fScope (stAt 55)) L a cd) ([nm "t", nm "many", nm "letter"] ++ [nm "some", nm "found", nm "told"])) :
    BSim G c (envOfC (Str.ofString (fnStr .of_term_)) (fScope (stAt 55)) L a cd) ([nm "t", nm "many", nm "letter"] ++ [nm "some", nm "found", nm "told"]) (fBody (stAt 55)) (b_of_term g_lplain g_of_power g_of_call g_of_term g_of_sum g_lmul) :=
  (sim_bCons (sim_kIf (simT_Cmp co (sim_It (sim_V 0 rfl ⟨rfl, rfl, rfl⟩ rfl rfl) sim_K_int (fun _ _ => ⟨_, rfl⟩)) (sim_K_str 0 (by decide) rfl) rfl) (sim_bCons (sim_kRet (sim_C (fn := .lplain_) rfl h_lplain ⟨rfl, rfl, rfl⟩ ok co (simL_cons (sim_Tup (simL_cons (sim_It (sim_V 0 rfl ⟨rfl, rfl, rfl⟩ rfl rfl) sim_K_int (fun _ _ => ⟨_, rfl⟩)) (simL_cons (sim_It (sim_V 0 rfl ⟨rfl, rfl, rfl⟩ rfl rfl) sim_K_int (fun _ _ => ⟨_, rfl⟩)) simL_nil rfl) rfl)) (simL_cons (sim_V 1 rfl ⟨rfl, rfl, rfl⟩ rfl rfl) simL_nil rfl) rfl) rfl rfl rfl rfl))
    sim_bNil) sim_bNil)
    (sim_bCons (sim_kIf (simT_Cmp co (sim_It (sim_V 0 rfl ⟨rfl, rfl, rfl⟩ rfl rfl) sim_K_int (fun _ _ => ⟨_, rfl⟩)) (sim_K_str 1 (by decide) rfl) rfl) (sim_bCons (sim_kIf (simT_Cmp co (sim_It (sim_V 0 rfl ⟨rfl, rfl, rfl⟩ rfl rfl) sim_K_int (fun _ _ => ⟨_, rfl⟩)) (sim_It (sim_V 2 rfl ⟨rfl, rfl, rfl⟩ rfl rfl) sim_K_int (fun _ _ => ⟨_, rfl⟩)) rfl) (sim_bCons sim_kNo
    sim_bNil) sim_bNil)
    (sim_bCons (sim_kRet (sim_Tup (simL_cons (sim_It (sim_It (sim_V 2 rfl ⟨rfl, rfl, rfl⟩ rfl rfl) sim_K_int (fun _ _ => ⟨_, rfl⟩)) sim_K_int (fun _ _ => ⟨_, rfl⟩)) (simL_cons (sim_Bin (sim_It (sim_It (sim_V 2 rfl ⟨rfl, rfl, rfl⟩ rfl rfl) sim_K_int (fun _ _ => ⟨_, rfl⟩)) sim_K_int (fun _ _ => ⟨_, rfl⟩)) (sim_Bin (sim_Lst (simL_cons (sim_G ⟨rfl, rfl, rfl⟩ ok co (x := "R0") (.head _) rfl rfl) simL_nil rfl)) (sim_Bin (sim_V 1 rfl ⟨rfl, rfl, rfl⟩ rfl rfl) (sim_B (x := "len") b_len (.tail _ (.head _)) how_builtin ⟨rfl, rfl, rfl⟩ ok co (simL_cons (sim_It (sim_It (sim_V 2 rfl ⟨rfl, rfl, rfl⟩ rfl rfl) sim_K_int (fun _ _ => ⟨_, rfl⟩)) sim_K_int (fun _ _ => ⟨_, rfl⟩)) simL_nil rfl) rfl rfl rfl rfl rfl)))) simL_nil rfl) rfl)))
    sim_bNil)) sim_bNil)
    (sim_bCons (sim_kIf (simT_Cmp co (sim_It (sim_V 0 rfl ⟨rfl, rfl, rfl⟩ rfl rfl) sim_K_int (fun _ _ => ⟨_, rfl⟩)) (sim_K_str 2 (by decide) rfl) rfl) (sim_bCons (sim_kRet (sim_C (fn := .of_power_) rfl h_of_power ⟨rfl, rfl, rfl⟩ ok co (simL_cons (sim_It (sim_V 0 rfl ⟨rfl, rfl, rfl⟩ rfl rfl) sim_K_int (fun _ _ => ⟨_, rfl⟩)) (simL_cons (sim_It (sim_V 0 rfl ⟨rfl, rfl, rfl⟩ rfl rfl) sim_K_int (fun _ _ => ⟨_, rfl⟩)) (simL_cons (sim_V 1 rfl ⟨rfl, rfl, rfl⟩ rfl rfl) (simL_cons (sim_V 2 rfl ⟨rfl, rfl, rfl⟩ rfl rfl) simL_nil rfl) rfl) rfl) rfl) rfl rfl rfl rfl))
    sim_bNil) sim_bNil)
    (sim_bCons (sim_kIf (simT_And (simT_Cmp co (sim_It (sim_V 0 rfl ⟨rfl, rfl, rfl⟩ rfl rfl) sim_K_int (fun _ _ => ⟨_, rfl⟩)) (sim_K_str 3 (by decide) rfl) rfl) (simT_And (simT_Cmp co (sim_It (sim_V 0 rfl ⟨rfl, rfl, rfl⟩ rfl rfl) sim_K_int (fun _ _ => ⟨_, rfl⟩)) (sim_K_str 4 (by decide) rfl) rfl) (simT_And (simT_Cmp co (sim_B (x := "len") b_len (.tail _ (.head _)) how_builtin ⟨rfl, rfl, rfl⟩ ok co (simL_cons (sim_It (sim_V 0 rfl ⟨rfl, rfl, rfl⟩ rfl rfl) sim_K_int (fun _ _ => ⟨_, rfl⟩)) simL_nil rfl) rfl rfl rfl rfl rfl) sim_K_int rfl) simT_AndNil))) (sim_bCons (sim_kRet (sim_C (fn := .of_power_) rfl h_of_power ⟨rfl, rfl, rfl⟩ ok co (simL_cons (sim_It (sim_It (sim_V 0 rfl ⟨rfl, rfl, rfl⟩ rfl rfl) sim_K_int (fun _ _ => ⟨_, rfl⟩)) sim_K_int (fun _ _ => ⟨_, rfl⟩)) (simL_cons (sim_Tup (simL_cons (sim_K_str 0 (by decide) rfl) (simL_cons sim_K_int (simL_cons sim_K_int simL_nil rfl) rfl) rfl)) (simL_cons (sim_V 1 rfl ⟨rfl, rfl, rfl⟩ rfl rfl) (simL_cons (sim_V 2 rfl ⟨rfl, rfl, rfl⟩ rfl rfl) simL_nil rfl) rfl) rfl) rfl) rfl rfl rfl rfl))
    sim_bNil) sim_bNil)
    (sim_bCons (sim_kIf (simT_And (simT_Cmp co (sim_It (sim_V 0 rfl ⟨rfl, rfl, rfl⟩ rfl rfl) sim_K_int (fun _ _ => ⟨_, rfl⟩)) (sim_K_str 3 (by decide) rfl) rfl) (simT_And (simT_Cmp co (sim_B (x := "len") b_len (.tail _ (.head _)) how_builtin ⟨rfl, rfl, rfl⟩ ok co (simL_cons (sim_It (sim_V 0 rfl ⟨rfl, rfl, rfl⟩ rfl rfl) sim_K_int (fun _ _ => ⟨_, rfl⟩)) simL_nil rfl) rfl rfl rfl rfl rfl) sim_K_int rfl) simT_AndNil)) (sim_bCons (sim_kRet (sim_C (fn := .of_call_) rfl h_of_call ⟨rfl, rfl, rfl⟩ ok co (simL_cons (sim_It (sim_V 0 rfl ⟨rfl, rfl, rfl⟩ rfl rfl) sim_K_int (fun _ _ => ⟨_, rfl⟩)) (simL_cons (sim_C (fn := .of_term_) rfl h_of_term ⟨rfl, rfl, rfl⟩ ok co (simL_cons (sim_It (sim_It (sim_V 0 rfl ⟨rfl, rfl, rfl⟩ rfl rfl) sim_K_int (fun _ _ => ⟨_, rfl⟩)) sim_K_int (fun _ _ => ⟨_, rfl⟩)) (simL_cons (sim_V 1 rfl ⟨rfl, rfl, rfl⟩ rfl rfl) (simL_cons (sim_V 2 rfl ⟨rfl, rfl, rfl⟩ rfl rfl) simL_nil rfl) rfl) rfl) rfl rfl rfl rfl) (simL_cons (sim_V 1 rfl ⟨rfl, rfl, rfl⟩ rfl rfl) simL_nil rfl) rfl) rfl) rfl rfl rfl rfl))
    sim_bNil) sim_bNil)
    (sim_bCons (sim_kIf (simT_Cmp co (sim_It (sim_V 0 rfl ⟨rfl, rfl, rfl⟩ rfl rfl) sim_K_int (fun _ _ => ⟨_, rfl⟩)) (sim_Tup (simL_cons (sim_K_str 5 (by decide) rfl) (simL_cons (sim_K_str 6 (by decide) rfl) simL_nil rfl) rfl)) rfl) (sim_bCons sim_kNo
    sim_bNil) sim_bNil)
    (sim_bCons (sim_kAsC co fr rfl (by first | exact .inl rfl | exact .inr ⟨rfl, rfl⟩) rfl (xs := [nm "one"]) (ys := [nm "many", nm "letter"]) (fun _ => rfl) rfl (by decide) (by decide) rfl (by decide) ⟨⟨rfl, rfl, (by first | exact .inl rfl | exact .inr rfl), (by first | exact .inl rfl | exact .inr rfl)⟩, ⟨⟨rfl, rfl, (by first | exact .inl rfl | exact .inr rfl), (by first | exact .inl rfl | exact .inr rfl)⟩, trivial⟩⟩ (cs_one (simI_S co (sim_It (sim_V 0 rfl ⟨rfl, rfl, rfl⟩ rfl rfl) sim_K_int (fun _ _ => ⟨_, rfl⟩))) rfl rfl) (fun C => (sim_C (fn := .of_term_) rfl h_of_term ⟨rfl, rfl, rfl⟩ ok co (simL_cons (sim_V 0 rfl ⟨rfl, rfl, rfl⟩ rfl rfl) (simL_cons (sim_V 1 rfl ⟨rfl, rfl, rfl⟩ rfl rfl) (simL_cons (sim_V 2 rfl ⟨rfl, rfl, rfl⟩ rfl rfl) simL_nil rfl) rfl) rfl) rfl rfl rfl rfl)))
    (sim_bCons (sim_kIf (simT_Cmp co (sim_It (sim_V 0 rfl ⟨rfl, rfl, rfl⟩ rfl rfl) sim_K_int (fun _ _ => ⟨_, rfl⟩)) (sim_K_str 5 (by decide) rfl) rfl) (sim_bCons (sim_kRet (sim_C (fn := .of_sum_) rfl h_of_sum ⟨rfl, rfl, rfl⟩ ok co (simL_cons (sim_V 3 rfl ⟨rfl, rfl, rfl⟩ rfl rfl) (simL_cons (sim_V 1 rfl ⟨rfl, rfl, rfl⟩ rfl rfl) simL_nil rfl) rfl) rfl rfl rfl rfl))
    sim_bNil) sim_bNil)
    (sim_bCons (sim_kAs fr rfl (by first | exact .inl rfl | exact .inr ⟨rfl, rfl⟩) (sim_C (fn := .lplain_) rfl h_lplain ⟨rfl, rfl, rfl⟩ ok co (simL_cons (sim_G ⟨rfl, rfl, rfl⟩ ok co (x := "R1") (.tail _ (.head _)) rfl rfl) (simL_cons (sim_V 1 rfl ⟨rfl, rfl, rfl⟩ rfl rfl) simL_nil rfl) rfl) rfl rfl rfl rfl) rfl)
    (sim_bCons (sim_kFo co fr rfl (by first | exact .inl rfl | exact .inr ⟨rfl, rfl⟩) (simI_S co (sim_V 3 rfl ⟨rfl, rfl, rfl⟩ rfl rfl)) (sim_bCons (sim_kAs fr rfl (by first | exact .inl rfl | exact .inr ⟨rfl, rfl⟩) (sim_C (fn := .lmul_) rfl h_lmul ⟨rfl, rfl, rfl⟩ ok co (simL_cons (sim_V 4 rfl ⟨rfl, rfl, rfl⟩ rfl rfl) (simL_cons (sim_V 5 rfl ⟨rfl, rfl, rfl⟩ rfl rfl) simL_nil rfl) rfl) rfl rfl rfl rfl) rfl)
    sim_bNil) (fun _ => rfl))
    (sim_bCons (sim_kRet (sim_V 4 rfl ⟨rfl, rfl, rfl⟩ rfl rfl))
    sim_bNil)))))))))))
theorem spec_of_term {g_lplain g_of_power g_of_call g_of_term g_of_sum g_lmul : List D → R D} (ok : G.OK) (fk : FlyOK G) (hd : DefAt G .of_term_ (fArgs (stAt 55)) (fBody (stAt 55)) (fScope (stAt 55))) (h_lplain : Spec G n .lplain_ g_lplain) (h_of_power : Spec G n .of_power_ g_of_power) (h_of_call : Spec G n .of_call_ g_of_call) (h_of_term : Spec G n .of_term_ g_of_term) (h_of_sum : Spec G n .of_sum_ g_of_sum) (h_lmul : Spec G n .lmul_ g_lmul) : Spec G (n + 1) .of_term_ (fnD 3 3 (b_of_term g_lplain g_of_power g_of_call g_of_term g_of_sum g_lmul)) :=
  spec_of (ps := [nm "t", nm "many", nm "letter"]) (locs := [nm "some", nm "found", nm "told"]) ok fk hd rfl rfl rfl (fun vs h => match vs, h with | [_, _, _], _ => fun _ _ _ _ => rfl) (by decide) (by decide) fun c L a cd _ co fr => body_of_term ok h_lplain h_of_power h_of_call h_of_term h_of_sum h_lmul c L a cd co fr
theorem body_laurent_of {g_of_term : List D → R D} (ok : G.OK) (h_of_term : Spec G n .of_term_ g_of_term) (c : Act) (L a : Addr) (cd : Value) (co : c.OK G n) (fr : Frm c (envOfC (Str.ofString (fnStr .laurent_of_)) (fScope (stAt 56)) L a cd) ([nm "t", nm "letter", nm "end"] ++ [nm "more", nm "found", nm "e"])) :
    BSim G c (envOfC (Str.ofString (fnStr .laurent_of_)) (fScope (stAt 56)) L a cd) ([nm "t", nm "letter", nm "end"] ++ [nm "more", nm "found", nm "e"]) (fBody (stAt 56)) (b_laurent_of g_of_term) :=
  (sim_bCons (sim_kFo co fr rfl (by first | exact .inl rfl | exact .inr ⟨rfl, rfl⟩) (simI_S co (sim_G ⟨rfl, rfl, rfl⟩ ok co (x := "MORE") (.tail _ (.tail _ (.tail _ (.tail _ (.head _))))) rfl rfl)) (sim_bCons (sim_kTr (sim_bCons (sim_kAs fr rfl (by first | exact .inl rfl | exact .inr ⟨rfl, rfl⟩) (sim_C (fn := .of_term_) rfl h_of_term ⟨rfl, rfl, rfl⟩ ok co (simL_cons (sim_V 0 rfl ⟨rfl, rfl, rfl⟩ rfl rfl) (simL_cons (sim_Bin (sim_B (x := "max") b_max (.tail _ (.tail _ (.tail _ (.head _)))) how_builtin ⟨rfl, rfl, rfl⟩ ok co (simL_cons (sim_V 2 rfl ⟨rfl, rfl, rfl⟩ rfl rfl) (simL_cons sim_K_int simL_nil rfl) rfl) rfl rfl rfl rfl rfl) (sim_V 3 rfl ⟨rfl, rfl, rfl⟩ rfl rfl)) (simL_cons (sim_V 1 rfl ⟨rfl, rfl, rfl⟩ rfl rfl) simL_nil rfl) rfl) rfl) rfl rfl rfl rfl) rfl)
    (sim_bCons (sim_kIf (simT_Cmp co (sim_Bin (sim_It (sim_V 4 rfl ⟨rfl, rfl, rfl⟩ rfl rfl) sim_K_int (fun _ _ => ⟨_, rfl⟩)) (sim_B (x := "len") b_len (.tail _ (.head _)) how_builtin ⟨rfl, rfl, rfl⟩ ok co (simL_cons (sim_It (sim_V 4 rfl ⟨rfl, rfl, rfl⟩ rfl rfl) sim_K_int (fun _ _ => ⟨_, rfl⟩)) simL_nil rfl) rfl rfl rfl rfl rfl)) (sim_V 2 rfl ⟨rfl, rfl, rfl⟩ rfl rfl) rfl) (sim_bCons (sim_kRet (sim_V 4 rfl ⟨rfl, rfl, rfl⟩ rfl rfl))
    sim_bNil) sim_bNil)
    sim_bNil)))
    sim_bNil) (fun _ => rfl))
    (sim_bCons sim_kNo
    sim_bNil))
theorem spec_laurent_of {g_of_term : List D → R D} (ok : G.OK) (fk : FlyOK G) (hd : DefAt G .laurent_of_ (fArgs (stAt 56)) (fBody (stAt 56)) (fScope (stAt 56))) (h_of_term : Spec G n .of_term_ g_of_term) : Spec G (n + 1) .laurent_of_ (fnD 3 3 (b_laurent_of g_of_term)) :=
  spec_of (ps := [nm "t", nm "letter", nm "end"]) (locs := [nm "more", nm "found", nm "e"]) ok fk hd rfl rfl rfl (fun vs h => match vs, h with | [_, _, _], _ => fun _ _ _ _ => rfl) (by decide) (by decide) fun c L a cd _ co fr => body_laurent_of ok h_of_term c L a cd co fr
theorem body_series_of {g_lcut g_laurent_of : List D → R D} (ok : G.OK) (h_lcut : Spec G n .lcut_ g_lcut) (h_laurent_of : Spec G n .laurent_of_ g_laurent_of) (c : Act) (L a : Addr) (cd : Value) (co : c.OK G n) (fr : Frm c (envOfC (Str.ofString (fnStr .series_of_)) (fScope (stAt 57)) L a cd) ([nm "t", nm "name", nm "at", nm "order"] ++ [nm "found"])) :
    BSim G c (envOfC (Str.ofString (fnStr .series_of_)) (fScope (stAt 57)) L a cd) ([nm "t", nm "name", nm "at", nm "order"] ++ [nm "found"]) (fBody (stAt 57)) (b_series_of g_lcut g_laurent_of) :=
  (sim_bCons (sim_kAs fr rfl (by first | exact .inl rfl | exact .inr ⟨rfl, rfl⟩) (sim_C (fn := .lcut_) rfl h_lcut ⟨rfl, rfl, rfl⟩ ok co (simL_cons (sim_C (fn := .laurent_of_) rfl h_laurent_of ⟨rfl, rfl, rfl⟩ ok co (simL_cons (sim_V 0 rfl ⟨rfl, rfl, rfl⟩ rfl rfl) (simL_cons (sim_Tup (simL_cons (sim_V 1 rfl ⟨rfl, rfl, rfl⟩ rfl rfl) (simL_cons (sim_Tup (simL_cons sim_K_int (simL_cons (sim_Lst (simL_cons (sim_V 2 rfl ⟨rfl, rfl, rfl⟩ rfl rfl) (simL_cons (sim_G ⟨rfl, rfl, rfl⟩ ok co (x := "R1") (.tail _ (.head _)) rfl rfl) simL_nil rfl) rfl)) simL_nil rfl) rfl)) simL_nil rfl) rfl)) (simL_cons (sim_V 3 rfl ⟨rfl, rfl, rfl⟩ rfl rfl) simL_nil rfl) rfl) rfl) rfl rfl rfl rfl) (simL_cons (sim_V 3 rfl ⟨rfl, rfl, rfl⟩ rfl rfl) simL_nil rfl) rfl) rfl rfl rfl rfl) rfl)
    (sim_bCons (sim_kIf (simT_Cmp co (sim_V 4 rfl ⟨rfl, rfl, rfl⟩ rfl rfl) sim_K_none rfl) (sim_bCons sim_kNo
    sim_bNil) sim_bNil)
    (sim_bCons (sim_kRet (sim_V 4 rfl ⟨rfl, rfl, rfl⟩ rfl rfl))
    sim_bNil)))
theorem spec_series_of {g_lcut g_laurent_of : List D → R D} (ok : G.OK) (fk : FlyOK G) (hd : DefAt G .series_of_ (fArgs (stAt 57)) (fBody (stAt 57)) (fScope (stAt 57))) (h_lcut : Spec G n .lcut_ g_lcut) (h_laurent_of : Spec G n .laurent_of_ g_laurent_of) : Spec G (n + 1) .series_of_ (fnD 4 1 (b_series_of g_lcut g_laurent_of)) :=
  spec_of (ps := [nm "t", nm "name", nm "at", nm "order"]) (locs := [nm "found"]) ok fk hd rfl rfl rfl (fun vs h => match vs, h with | [_, _, _, _], _ => fun _ _ _ _ => rfl) (by decide) (by decide) fun c L a cd _ co fr => body_series_of ok h_lcut h_laurent_of c L a cd co fr
theorem body_t_num {g_rat : List D → R D} (ok : G.OK) (h_rat : Spec G n .rat_ g_rat) (c : Act) (L a : Addr) (cd : Value) (co : c.OK G n) (fr : Frm c (envOfC (Str.ofString (fnStr .t_num_)) (fScope (stAt 62)) L a cd) ([nm "top", nm "bottom"] ++ [nm "told"])) :
    BSim G c (envOfC (Str.ofString (fnStr .t_num_)) (fScope (stAt 62)) L a cd) ([nm "top", nm "bottom"] ++ [nm "told"]) (fBody (stAt 62)) (b_t_num g_rat) :=
  (sim_bCons (sim_kAs fr rfl (by first | exact .inl rfl | exact .inr ⟨rfl, rfl⟩) (sim_C (fn := .rat_) rfl h_rat ⟨rfl, rfl, rfl⟩ ok co (simL_cons (sim_V 0 rfl ⟨rfl, rfl, rfl⟩ rfl rfl) (simL_cons (sim_V 1 rfl ⟨rfl, rfl, rfl⟩ rfl rfl) simL_nil rfl) rfl) rfl rfl rfl rfl) rfl)
    (sim_bCons (sim_kRet (sim_Tup (simL_cons (sim_K_str 0 (by decide) rfl) (simL_cons (sim_It (sim_V 2 rfl ⟨rfl, rfl, rfl⟩ rfl rfl) sim_K_int (fun _ _ => ⟨_, rfl⟩)) (simL_cons (sim_It (sim_V 2 rfl ⟨rfl, rfl, rfl⟩ rfl rfl) sim_K_int (fun _ _ => ⟨_, rfl⟩)) simL_nil rfl) rfl) rfl)))
    sim_bNil))
theorem spec_t_num {g_rat : List D → R D} (ok : G.OK) (fk : FlyOK G) (hd : DefAt G .t_num_ (fArgs (stAt 62)) (fBody (stAt 62)) (fScope (stAt 62))) (h_rat : Spec G n .rat_ g_rat) : Spec G (n + 1) .t_num_ (fnD 2 1 (b_t_num g_rat)) :=
  spec_of (ps := [nm "top", nm "bottom"]) (locs := [nm "told"]) ok fk hd rfl rfl rfl (fun vs h => match vs, h with | [_, _], _ => fun _ _ _ _ => rfl) (by decide) (by decide) fun c L a cd _ co fr => body_t_num ok h_rat c L a cd co fr
theorem body_t_sym (ok : G.OK) (c : Act) (L a : Addr) (cd : Value) (co : c.OK G n) (fr : Frm c (envOfC (Str.ofString (fnStr .t_sym_)) (fScope (stAt 63)) L a cd) ([nm "name"] ++ [])) :
    BSim G c (envOfC (Str.ofString (fnStr .t_sym_)) (fScope (stAt 63)) L a cd) ([nm "name"] ++ []) (fBody (stAt 63)) (b_t_sym) :=
  (sim_bCons (sim_kRet (sim_Tup (simL_cons (sim_K_str 1 (by decide) rfl) (simL_cons (sim_V 0 rfl ⟨rfl, rfl, rfl⟩ rfl rfl) simL_nil rfl) rfl)))
    sim_bNil)
theorem spec_t_sym (ok : G.OK) (fk : FlyOK G) (hd : DefAt G .t_sym_ (fArgs (stAt 63)) (fBody (stAt 63)) (fScope (stAt 63))) : Spec G (n + 1) .t_sym_ (fnD 1 0 (b_t_sym)) :=
  spec_of (ps := [nm "name"]) (locs := []) ok fk hd rfl rfl rfl (fun vs h => match vs, h with | [_], _ => fun _ _ _ _ => rfl) (by decide) (by decide) fun c L a cd _ co fr => body_t_sym ok  c L a cd co fr
theorem body_t_sum (ok : G.OK) (c : Act) (L a : Addr) (cd : Value) (co : c.OK G n) (fr : Frm c (envOfC (Str.ofString (fnStr .t_sum_)) (fScope (stAt 64)) L a cd) ([nm "some_terms"] ++ [])) :
    BSim G c (envOfC (Str.ofString (fnStr .t_sum_)) (fScope (stAt 64)) L a cd) ([nm "some_terms"] ++ []) (fBody (stAt 64)) (b_t_sum) :=
  (sim_bCons (sim_kIf (simT_Cmp co (sim_B (x := "len") b_len (.tail _ (.head _)) how_builtin ⟨rfl, rfl, rfl⟩ ok co (simL_cons (sim_V 0 rfl ⟨rfl, rfl, rfl⟩ rfl rfl) simL_nil rfl) rfl rfl rfl rfl rfl) sim_K_int rfl) (sim_bCons (sim_kRet (sim_G ⟨rfl, rfl, rfl⟩ ok co (x := "T_ZERO") (.tail _ (.tail _ (.tail _ (.tail _ (.tail _ (.head _)))))) rfl rfl))
    sim_bNil) sim_bNil)
    (sim_bCons (sim_kRet (sim_If (simT_Cmp co (sim_B (x := "len") b_len (.tail _ (.head _)) how_builtin ⟨rfl, rfl, rfl⟩ ok co (simL_cons (sim_V 0 rfl ⟨rfl, rfl, rfl⟩ rfl rfl) simL_nil rfl) rfl rfl rfl rfl rfl) sim_K_int rfl) (sim_It (sim_V 0 rfl ⟨rfl, rfl, rfl⟩ rfl rfl) sim_K_int (fun _ _ => ⟨_, rfl⟩)) (sim_Tup (simL_cons (sim_K_str 5 (by decide) rfl) (simL_cons (sim_B (x := "tuple") b_tuple (.tail _ (.tail _ (.tail _ (.tail _ (.tail _ (.tail _ (.head _))))))) how_type ⟨rfl, rfl, rfl⟩ ok co (simL_cons (sim_V 0 rfl ⟨rfl, rfl, rfl⟩ rfl rfl) simL_nil rfl) rfl rfl rfl rfl rfl) simL_nil rfl) rfl))))
    sim_bNil))
theorem spec_t_sum (ok : G.OK) (fk : FlyOK G) (hd : DefAt G .t_sum_ (fArgs (stAt 64)) (fBody (stAt 64)) (fScope (stAt 64))) : Spec G (n + 1) .t_sum_ (fnD 1 0 (b_t_sum)) :=
  spec_of (ps := [nm "some_terms"]) (locs := []) ok fk hd rfl rfl rfl (fun vs h => match vs, h with | [_], _ => fun _ _ _ _ => rfl) (by decide) (by decide) fun c L a cd _ co fr => body_t_sum ok  c L a cd co fr
theorem body_t_prod (ok : G.OK) (c : Act) (L a : Addr) (cd : Value) (co : c.OK G n) (fr : Frm c (envOfC (Str.ofString (fnStr .t_prod_)) (fScope (stAt 65)) L a cd) ([nm "some_terms"] ++ [])) :
    BSim G c (envOfC (Str.ofString (fnStr .t_prod_)) (fScope (stAt 65)) L a cd) ([nm "some_terms"] ++ []) (fBody (stAt 65)) (b_t_prod) :=
  (sim_bCons (sim_kIf (simT_Cmp co (sim_B (x := "len") b_len (.tail _ (.head _)) how_builtin ⟨rfl, rfl, rfl⟩ ok co (simL_cons (sim_V 0 rfl ⟨rfl, rfl, rfl⟩ rfl rfl) simL_nil rfl) rfl rfl rfl rfl rfl) sim_K_int rfl) (sim_bCons (sim_kRet (sim_G ⟨rfl, rfl, rfl⟩ ok co (x := "T_ONE") (.tail _ (.tail _ (.tail _ (.tail _ (.tail _ (.tail _ (.head _))))))) rfl rfl))
    sim_bNil) sim_bNil)
    (sim_bCons (sim_kRet (sim_If (simT_Cmp co (sim_B (x := "len") b_len (.tail _ (.head _)) how_builtin ⟨rfl, rfl, rfl⟩ ok co (simL_cons (sim_V 0 rfl ⟨rfl, rfl, rfl⟩ rfl rfl) simL_nil rfl) rfl rfl rfl rfl rfl) sim_K_int rfl) (sim_It (sim_V 0 rfl ⟨rfl, rfl, rfl⟩ rfl rfl) sim_K_int (fun _ _ => ⟨_, rfl⟩)) (sim_Tup (simL_cons (sim_K_str 6 (by decide) rfl) (simL_cons (sim_B (x := "tuple") b_tuple (.tail _ (.tail _ (.tail _ (.tail _ (.tail _ (.tail _ (.head _))))))) how_type ⟨rfl, rfl, rfl⟩ ok co (simL_cons (sim_V 0 rfl ⟨rfl, rfl, rfl⟩ rfl rfl) simL_nil rfl) rfl rfl rfl rfl rfl) simL_nil rfl) rfl))))
    sim_bNil))
theorem spec_t_prod (ok : G.OK) (fk : FlyOK G) (hd : DefAt G .t_prod_ (fArgs (stAt 65)) (fBody (stAt 65)) (fScope (stAt 65))) : Spec G (n + 1) .t_prod_ (fnD 1 0 (b_t_prod)) :=
  spec_of (ps := [nm "some_terms"]) (locs := []) ok fk hd rfl rfl rfl (fun vs h => match vs, h with | [_], _ => fun _ _ _ _ => rfl) (by decide) (by decide) fun c L a cd _ co fr => body_t_prod ok  c L a cd co fr
theorem body_t_pow (ok : G.OK) (c : Act) (L a : Addr) (cd : Value) (co : c.OK G n) (fr : Frm c (envOfC (Str.ofString (fnStr .t_pow_)) (fScope (stAt 66)) L a cd) ([nm "base", nm "exponent"] ++ [])) :
    BSim G c (envOfC (Str.ofString (fnStr .t_pow_)) (fScope (stAt 66)) L a cd) ([nm "base", nm "exponent"] ++ []) (fBody (stAt 66)) (b_t_pow) :=
  (sim_bCons (sim_kRet (sim_Tup (simL_cons (sim_K_str 2 (by decide) rfl) (simL_cons (sim_V 0 rfl ⟨rfl, rfl, rfl⟩ rfl rfl) (simL_cons (sim_V 1 rfl ⟨rfl, rfl, rfl⟩ rfl rfl) simL_nil rfl) rfl) rfl)))
    sim_bNil)
theorem spec_t_pow (ok : G.OK) (fk : FlyOK G) (hd : DefAt G .t_pow_ (fArgs (stAt 66)) (fBody (stAt 66)) (fScope (stAt 66))) : Spec G (n + 1) .t_pow_ (fnD 2 0 (b_t_pow)) :=
  spec_of (ps := [nm "base", nm "exponent"]) (locs := []) ok fk hd rfl rfl rfl (fun vs h => match vs, h with | [_, _], _ => fun _ _ _ _ => rfl) (by decide) (by decide) fun c L a cd _ co fr => body_t_pow ok  c L a cd co fr
theorem body_t_call (ok : G.OK) (c : Act) (L a : Addr) (cd : Value) (co : c.OK G n) (fr : Frm c (envOfC (Str.ofString (fnStr .t_call_)) (fScope (stAt 67)) L a cd) ([nm "name", nm "some_terms"] ++ [])) :
    BSim G c (envOfC (Str.ofString (fnStr .t_call_)) (fScope (stAt 67)) L a cd) ([nm "name", nm "some_terms"] ++ []) (fBody (stAt 67)) (b_t_call) :=
  (sim_bCons (sim_kRet (sim_Tup (simL_cons (sim_K_str 3 (by decide) rfl) (simL_cons (sim_V 0 rfl ⟨rfl, rfl, rfl⟩ rfl rfl) (simL_cons (sim_B (x := "tuple") b_tuple (.tail _ (.tail _ (.tail _ (.tail _ (.tail _ (.tail _ (.head _))))))) how_type ⟨rfl, rfl, rfl⟩ ok co (simL_cons (sim_V 1 rfl ⟨rfl, rfl, rfl⟩ rfl rfl) simL_nil rfl) rfl rfl rfl rfl rfl) simL_nil rfl) rfl) rfl)))
    sim_bNil)
theorem spec_t_call (ok : G.OK) (fk : FlyOK G) (hd : DefAt G .t_call_ (fArgs (stAt 67)) (fBody (stAt 67)) (fScope (stAt 67))) : Spec G (n + 1) .t_call_ (fnD 2 0 (b_t_call)) :=
  spec_of (ps := [nm "name", nm "some_terms"]) (locs := []) ok fk hd rfl rfl rfl (fun vs h => match vs, h with | [_, _], _ => fun _ _ _ _ => rfl) (by decide) (by decide) fun c L a cd _ co fr => body_t_call ok  c L a cd co fr
theorem body_t_quotient (ok : G.OK) (c : Act) (L a : Addr) (cd : Value) (co : c.OK G n) (fr : Frm c (envOfC (Str.ofString (fnStr .t_quotient_)) (fScope (stAt 68)) L a cd) ([nm "above", nm "below"] ++ [])) :
    BSim G c (envOfC (Str.ofString (fnStr .t_quotient_)) (fScope (stAt 68)) L a cd) ([nm "above", nm "below"] ++ []) (fBody (stAt 68)) (b_t_quotient) :=
  (sim_bCons (sim_kRet (sim_Tup (simL_cons (sim_K_str 6 (by decide) rfl) (simL_cons (sim_Tup (simL_cons (sim_V 0 rfl ⟨rfl, rfl, rfl⟩ rfl rfl) (simL_cons (sim_Tup (simL_cons (sim_K_str 2 (by decide) rfl) (simL_cons (sim_V 1 rfl ⟨rfl, rfl, rfl⟩ rfl rfl) (simL_cons (sim_G ⟨rfl, rfl, rfl⟩ ok co (x := "T_MINUS") (.tail _ (.tail _ (.tail _ (.tail _ (.tail _ (.tail _ (.tail _ (.head _)))))))) rfl rfl) simL_nil rfl) rfl) rfl)) simL_nil rfl) rfl)) simL_nil rfl) rfl)))
    sim_bNil)
theorem spec_t_quotient (ok : G.OK) (fk : FlyOK G) (hd : DefAt G .t_quotient_ (fArgs (stAt 68)) (fBody (stAt 68)) (fScope (stAt 68))) : Spec G (n + 1) .t_quotient_ (fnD 2 0 (b_t_quotient)) :=
  spec_of (ps := [nm "above", nm "below"]) (locs := []) ok fk hd rfl rfl rfl (fun vs h => match vs, h with | [_, _], _ => fun _ _ _ _ => rfl) (by decide) (by decide) fun c L a cd _ co fr => body_t_quotient ok  c L a cd co fr
theorem body_law_part {g_t_sum g_t_num g_t_prod g_t_call g_t_pow : List D → R D} (ok : G.OK) (h_t_sum : Spec G n .t_sum_ g_t_sum) (h_t_num : Spec G n .t_num_ g_t_num) (h_t_prod : Spec G n .t_prod_ g_t_prod) (h_t_call : Spec G n .t_call_ g_t_call) (h_t_pow : Spec G n .t_pow_ g_t_pow) (c : Act) (L a : Addr) (cd : Value) (co : c.OK G n) (fr : Frm c (envOfC (Str.ofString (fnStr .law_part_)) (fScope (stAt 71)) L a cd) ([nm "kind", nm "c", nm "leaf"] ++ [nm "line"])) :
    BSim G c (envOfC (Str.ofString (fnStr .law_part_)) (fScope (stAt 71)) L a cd) ([nm "kind", nm "c", nm "leaf"] ++ [nm "line"]) (fBody (stAt 71)) (b_law_part g_t_sum g_t_num g_t_prod g_t_call g_t_pow) :=
  (sim_bCons (sim_kAs fr rfl (by first | exact .inl rfl | exact .inr ⟨rfl, rfl⟩) (sim_C (fn := .t_sum_) rfl h_t_sum ⟨rfl, rfl, rfl⟩ ok co (simL_cons (sim_Lst (simL_cons (sim_C (fn := .t_num_) rfl h_t_num ⟨rfl, rfl, rfl⟩ ok co (simL_cons sim_K_int (simL_cons sim_K_int simL_nil rfl) rfl) rfl rfl rfl rfl) (simL_cons (sim_C (fn := .t_prod_) rfl h_t_prod ⟨rfl, rfl, rfl⟩ ok co (simL_cons (sim_Lst (simL_cons (sim_C (fn := .t_num_) rfl h_t_num ⟨rfl, rfl, rfl⟩ ok co (simL_cons (sim_V 1 rfl ⟨rfl, rfl, rfl⟩ rfl rfl) (simL_cons sim_K_int simL_nil rfl) rfl) rfl rfl rfl rfl) (simL_cons (sim_V 2 rfl ⟨rfl, rfl, rfl⟩ rfl rfl) simL_nil rfl) rfl)) simL_nil rfl) rfl rfl rfl rfl) simL_nil rfl) rfl)) simL_nil rfl) rfl rfl rfl rfl) rfl)
    (sim_bCons (sim_kIf (simT_Cmp co (sim_V 0 rfl ⟨rfl, rfl, rfl⟩ rfl rfl) sim_K_int rfl) (sim_bCons (sim_kRet (sim_C (fn := .t_sum_) rfl h_t_sum ⟨rfl, rfl, rfl⟩ ok co (simL_cons (sim_Lst (simL_cons (sim_C (fn := .t_num_) rfl h_t_num ⟨rfl, rfl, rfl⟩ ok co (simL_cons (sim_V 1 rfl ⟨rfl, rfl, rfl⟩ rfl rfl) (simL_cons sim_K_int simL_nil rfl) rfl) rfl rfl rfl rfl) (simL_cons (sim_V 2 rfl ⟨rfl, rfl, rfl⟩ rfl rfl) simL_nil rfl) rfl)) simL_nil rfl) rfl rfl rfl rfl))
    sim_bNil) sim_bNil)
    (sim_bCons (sim_kIf (simT_Cmp co (sim_V 0 rfl ⟨rfl, rfl, rfl⟩ rfl rfl) sim_K_int rfl) (sim_bCons (sim_kRet (sim_C (fn := .t_call_) rfl h_t_call ⟨rfl, rfl, rfl⟩ ok co (simL_cons (sim_K_str 10 (by decide) rfl) (simL_cons (sim_Lst (simL_cons (sim_V 2 rfl ⟨rfl, rfl, rfl⟩ rfl rfl) simL_nil rfl)) simL_nil rfl) rfl) rfl rfl rfl rfl))
    sim_bNil) sim_bNil)
    (sim_bCons (sim_kIf (simT_Cmp co (sim_V 0 rfl ⟨rfl, rfl, rfl⟩ rfl rfl) sim_K_int rfl) (sim_bCons (sim_kRet (sim_C (fn := .t_pow_) rfl h_t_pow ⟨rfl, rfl, rfl⟩ ok co (simL_cons (sim_V 3 rfl ⟨rfl, rfl, rfl⟩ rfl rfl) (simL_cons (sim_C (fn := .t_num_) rfl h_t_num ⟨rfl, rfl, rfl⟩ ok co (simL_cons sim_neg (simL_cons sim_K_int simL_nil rfl) rfl) rfl rfl rfl rfl) simL_nil rfl) rfl) rfl rfl rfl rfl))
    sim_bNil) sim_bNil)
    (sim_bCons (sim_kIf (simT_Cmp co (sim_V 0 rfl ⟨rfl, rfl, rfl⟩ rfl rfl) sim_K_int rfl) (sim_bCons (sim_kRet (sim_C (fn := .t_call_) rfl h_t_call ⟨rfl, rfl, rfl⟩ ok co (simL_cons (sim_K_str 7 (by decide) rfl) (simL_cons (sim_Lst (simL_cons (sim_V 2 rfl ⟨rfl, rfl, rfl⟩ rfl rfl) simL_nil rfl)) simL_nil rfl) rfl) rfl rfl rfl rfl))
    sim_bNil) sim_bNil)
    (sim_bCons (sim_kIf (simT_Cmp co (sim_V 0 rfl ⟨rfl, rfl, rfl⟩ rfl rfl) sim_K_int rfl) (sim_bCons (sim_kRet (sim_C (fn := .t_call_) rfl h_t_call ⟨rfl, rfl, rfl⟩ ok co (simL_cons (sim_K_str 11 (by decide) rfl) (simL_cons (sim_Lst (simL_cons (sim_V 3 rfl ⟨rfl, rfl, rfl⟩ rfl rfl) simL_nil rfl)) simL_nil rfl) rfl) rfl rfl rfl rfl))
    sim_bNil) sim_bNil)
    (sim_bCons (sim_kIf (simT_Cmp co (sim_V 0 rfl ⟨rfl, rfl, rfl⟩ rfl rfl) sim_K_int rfl) (sim_bCons (sim_kRet (sim_C (fn := .t_pow_) rfl h_t_pow ⟨rfl, rfl, rfl⟩ ok co (simL_cons (sim_V 3 rfl ⟨rfl, rfl, rfl⟩ rfl rfl) (simL_cons (sim_C (fn := .t_num_) rfl h_t_num ⟨rfl, rfl, rfl⟩ ok co (simL_cons sim_K_int (simL_cons sim_K_int simL_nil rfl) rfl) rfl rfl rfl rfl) simL_nil rfl) rfl) rfl rfl rfl rfl))
    sim_bNil) sim_bNil)
    (sim_bCons (sim_kRet (sim_C (fn := .t_prod_) rfl h_t_prod ⟨rfl, rfl, rfl⟩ ok co (simL_cons (sim_Lst (simL_cons (sim_C (fn := .t_num_) rfl h_t_num ⟨rfl, rfl, rfl⟩ ok co (simL_cons (sim_V 1 rfl ⟨rfl, rfl, rfl⟩ rfl rfl) (simL_cons sim_K_int simL_nil rfl) rfl) rfl rfl rfl rfl) (simL_cons (sim_V 2 rfl ⟨rfl, rfl, rfl⟩ rfl rfl) simL_nil rfl) rfl)) simL_nil rfl) rfl rfl rfl rfl))
    sim_bNil))))))))
theorem spec_law_part {g_t_sum g_t_num g_t_prod g_t_call g_t_pow : List D → R D} (ok : G.OK) (fk : FlyOK G) (hd : DefAt G .law_part_ (fArgs (stAt 71)) (fBody (stAt 71)) (fScope (stAt 71))) (h_t_sum : Spec G n .t_sum_ g_t_sum) (h_t_num : Spec G n .t_num_ g_t_num) (h_t_prod : Spec G n .t_prod_ g_t_prod) (h_t_call : Spec G n .t_call_ g_t_call) (h_t_pow : Spec G n .t_pow_ g_t_pow) : Spec G (n + 1) .law_part_ (fnD 3 1 (b_law_part g_t_sum g_t_num g_t_prod g_t_call g_t_pow)) :=
  spec_of (ps := [nm "kind", nm "c", nm "leaf"]) (locs := [nm "line"]) ok fk hd rfl rfl rfl (fun vs h => match vs, h with | [_, _, _], _ => fun _ _ _ _ => rfl) (by decide) (by decide) fun c L a cd _ co fr => body_law_part ok h_t_sum h_t_num h_t_prod h_t_call h_t_pow c L a cd co fr
theorem body_law_lowest (ok : G.OK) (c : Act) (L a : Addr) (cd : Value) (co : c.OK G n) (fr : Frm c (envOfC (Str.ofString (fnStr .law_lowest_)) (fScope (stAt 72)) L a cd) ([nm "top", nm "bottom"] ++ [nm "one", nm "other"])) :
    BSim G c (envOfC (Str.ofString (fnStr .law_lowest_)) (fScope (stAt 72)) L a cd) ([nm "top", nm "bottom"] ++ [nm "one", nm "other"]) (fBody (stAt 72)) (b_law_lowest) :=
  (sim_bCons (sim_kMu co fr rfl rfl (by first | exact .inl rfl | exact .inr ⟨rfl, rfl⟩) (by first | exact .inl rfl | exact .inr ⟨rfl, rfl⟩) (simL_cons (sim_B (x := "abs") b_abs (.head _) how_builtin ⟨rfl, rfl, rfl⟩ ok co (simL_cons (sim_V 0 rfl ⟨rfl, rfl, rfl⟩ rfl rfl) simL_nil rfl) rfl rfl rfl rfl rfl) (simL_cons (sim_V 1 rfl ⟨rfl, rfl, rfl⟩ rfl rfl) simL_nil rfl) rfl) rfl rfl)
    (sim_bCons (sim_kWh 200 (simT_Cmp co (sim_V 3 rfl ⟨rfl, rfl, rfl⟩ rfl rfl) sim_K_int rfl) (sim_bCons (sim_kMu co fr rfl rfl (by first | exact .inl rfl | exact .inr ⟨rfl, rfl⟩) (by first | exact .inl rfl | exact .inr ⟨rfl, rfl⟩) (simL_cons (sim_V 3 rfl ⟨rfl, rfl, rfl⟩ rfl rfl) (simL_cons (sim_Bin (sim_V 2 rfl ⟨rfl, rfl, rfl⟩ rfl rfl) (sim_V 3 rfl ⟨rfl, rfl, rfl⟩ rfl rfl)) simL_nil rfl) rfl) rfl rfl)
    sim_bNil))
    (sim_bCons (sim_kRet (sim_Tup (simL_cons (sim_Bin (sim_V 0 rfl ⟨rfl, rfl, rfl⟩ rfl rfl) (sim_V 2 rfl ⟨rfl, rfl, rfl⟩ rfl rfl)) (simL_cons (sim_Bin (sim_V 1 rfl ⟨rfl, rfl, rfl⟩ rfl rfl) (sim_V 2 rfl ⟨rfl, rfl, rfl⟩ rfl rfl)) simL_nil rfl) rfl)))
    sim_bNil)))
theorem spec_law_lowest (ok : G.OK) (fk : FlyOK G) (hd : DefAt G .law_lowest_ (fArgs (stAt 72)) (fBody (stAt 72)) (fScope (stAt 72))) : Spec G (n + 1) .law_lowest_ (fnD 2 2 (b_law_lowest)) :=
  spec_of (ps := [nm "top", nm "bottom"]) (locs := [nm "one", nm "other"]) ok fk hd rfl rfl rfl (fun vs h => match vs, h with | [_, _], _ => fun _ _ _ _ => rfl) (by decide) (by decide) fun c L a cd _ co fr => body_law_lowest ok  c L a cd co fr
theorem body_law_plus {g_law_lowest : List D → R D} (ok : G.OK) (h_law_lowest : Spec G n .law_lowest_ g_law_lowest) (c : Act) (L a : Addr) (cd : Value) (co : c.OK G n) (fr : Frm c (envOfC (Str.ofString (fnStr .law_plus_)) (fScope (stAt 73)) L a cd) ([nm "a", nm "b"] ++ [])) :
    BSim G c (envOfC (Str.ofString (fnStr .law_plus_)) (fScope (stAt 73)) L a cd) ([nm "a", nm "b"] ++ []) (fBody (stAt 73)) (b_law_plus g_law_lowest) :=
  (sim_bCons (sim_kRet (sim_C (fn := .law_lowest_) rfl h_law_lowest ⟨rfl, rfl, rfl⟩ ok co (simL_cons (sim_Bin (sim_Bin (sim_It (sim_V 0 rfl ⟨rfl, rfl, rfl⟩ rfl rfl) sim_K_int (fun _ _ => ⟨_, rfl⟩)) (sim_It (sim_V 1 rfl ⟨rfl, rfl, rfl⟩ rfl rfl) sim_K_int (fun _ _ => ⟨_, rfl⟩))) (sim_Bin (sim_It (sim_V 1 rfl ⟨rfl, rfl, rfl⟩ rfl rfl) sim_K_int (fun _ _ => ⟨_, rfl⟩)) (sim_It (sim_V 0 rfl ⟨rfl, rfl, rfl⟩ rfl rfl) sim_K_int (fun _ _ => ⟨_, rfl⟩)))) (simL_cons (sim_Bin (sim_It (sim_V 0 rfl ⟨rfl, rfl, rfl⟩ rfl rfl) sim_K_int (fun _ _ => ⟨_, rfl⟩)) (sim_It (sim_V 1 rfl ⟨rfl, rfl, rfl⟩ rfl rfl) sim_K_int (fun _ _ => ⟨_, rfl⟩))) simL_nil rfl) rfl) rfl rfl rfl rfl))
    sim_bNil)
theorem spec_law_plus {g_law_lowest : List D → R D} (ok : G.OK) (fk : FlyOK G) (hd : DefAt G .law_plus_ (fArgs (stAt 73)) (fBody (stAt 73)) (fScope (stAt 73))) (h_law_lowest : Spec G n .law_lowest_ g_law_lowest) : Spec G (n + 1) .law_plus_ (fnD 2 0 (b_law_plus g_law_lowest)) :=
  spec_of (ps := [nm "a", nm "b"]) (locs := []) ok fk hd rfl rfl rfl (fun vs h => match vs, h with | [_, _], _ => fun _ _ _ _ => rfl) (by decide) (by decide) fun c L a cd _ co fr => body_law_plus ok h_law_lowest c L a cd co fr
theorem body_law_cauchy {g_law_plus : List D → R D} (ok : G.OK) (h_law_plus : Spec G n .law_plus_ g_law_plus) (c : Act) (L a : Addr) (cd : Value) (co : c.OK G n) (fr : Frm c (envOfC (Str.ofString (fnStr .law_cauchy_)) (fScope (stAt 74)) L a cd) ([nm "a", nm "b"] ++ [nm "found", nm "at", nm "total", nm "spot"])) :
    BSim G c (envOfC (Str.ofString (fnStr .law_cauchy_)) (fScope (stAt 74)) L a cd) ([nm "a", nm "b"] ++ [nm "found", nm "at", nm "total", nm "spot"]) (fBody (stAt 74)) (b_law_cauchy g_law_plus) :=
  (sim_bCons (sim_kOwnL co fr rfl (by first | exact .inl rfl | exact .inr ⟨rfl, rfl⟩) simL_nil)
    (sim_bCons (sim_kFo co fr rfl (by first | exact .inl rfl | exact .inr ⟨rfl, rfl⟩) (simI_R ⟨rfl, rfl, rfl⟩ ok co (fun _ _ => rfl) (simL_cons (sim_B (x := "len") b_len (.tail _ (.head _)) how_builtin ⟨rfl, rfl, rfl⟩ ok co (simL_cons (sim_V 1 rfl ⟨rfl, rfl, rfl⟩ rfl rfl) simL_nil rfl) rfl rfl rfl rfl rfl) simL_nil rfl) rfl rfl rfl rfl rfl) (sim_bCons (sim_kAs fr rfl (by first | exact .inl rfl | exact .inr ⟨rfl, rfl⟩) (sim_Tup (simL_cons sim_K_int (simL_cons sim_K_int simL_nil rfl) rfl)) rfl)
    (sim_bCons (sim_kFo co fr rfl (by first | exact .inl rfl | exact .inr ⟨rfl, rfl⟩) (simI_R ⟨rfl, rfl, rfl⟩ ok co (fun _ _ => rfl) (simL_cons (sim_B (x := "min") b_min (.tail _ (.tail _ (.head _))) how_builtin ⟨rfl, rfl, rfl⟩ ok co (simL_cons (sim_Bin (sim_V 3 rfl ⟨rfl, rfl, rfl⟩ rfl rfl) sim_K_int) (simL_cons (sim_B (x := "len") b_len (.tail _ (.head _)) how_builtin ⟨rfl, rfl, rfl⟩ ok co (simL_cons (sim_V 0 rfl ⟨rfl, rfl, rfl⟩ rfl rfl) simL_nil rfl) rfl rfl rfl rfl rfl) simL_nil rfl) rfl) rfl rfl rfl rfl rfl) simL_nil rfl) rfl rfl rfl rfl rfl) (sim_bCons (sim_kAs fr rfl (by first | exact .inl rfl | exact .inr ⟨rfl, rfl⟩) (sim_C (fn := .law_plus_) rfl h_law_plus ⟨rfl, rfl, rfl⟩ ok co (simL_cons (sim_V 4 rfl ⟨rfl, rfl, rfl⟩ rfl rfl) (simL_cons (sim_Tup (simL_cons (sim_Bin (sim_It (sim_It (sim_V 0 rfl ⟨rfl, rfl, rfl⟩ rfl rfl) (sim_V 5 rfl ⟨rfl, rfl, rfl⟩ rfl rfl) (fun _ _ => ⟨_, rfl⟩)) sim_K_int (fun _ _ => ⟨_, rfl⟩)) (sim_It (sim_It (sim_V 1 rfl ⟨rfl, rfl, rfl⟩ rfl rfl) (sim_Bin (sim_V 3 rfl ⟨rfl, rfl, rfl⟩ rfl rfl) (sim_V 5 rfl ⟨rfl, rfl, rfl⟩ rfl rfl)) (fun _ _ => ⟨_, rfl⟩)) sim_K_int (fun _ _ => ⟨_, rfl⟩))) (simL_cons (sim_Bin (sim_It (sim_It (sim_V 0 rfl ⟨rfl, rfl, rfl⟩ rfl rfl) (sim_V 5 rfl ⟨rfl, rfl, rfl⟩ rfl rfl) (fun _ _ => ⟨_, rfl⟩)) sim_K_int (fun _ _ => ⟨_, rfl⟩)) (sim_It (sim_It (sim_V 1 rfl ⟨rfl, rfl, rfl⟩ rfl rfl) (sim_Bin (sim_V 3 rfl ⟨rfl, rfl, rfl⟩ rfl rfl) (sim_V 5 rfl ⟨rfl, rfl, rfl⟩ rfl rfl)) (fun _ _ => ⟨_, rfl⟩)) sim_K_int (fun _ _ => ⟨_, rfl⟩))) simL_nil rfl) rfl)) simL_nil rfl) rfl) rfl rfl rfl rfl) rfl)
    sim_bNil) (fun _ => rfl))
    (sim_bCons (sim_kAp fr rfl (sim_V 4 rfl ⟨rfl, rfl, rfl⟩ rfl rfl) rfl rfl rfl rfl rfl rfl rfl rfl)
    sim_bNil))) (fun _ => rfl))
    (sim_kFz fr rfl (sim_bCons (sim_kRet (sim_V 2 rfl ⟨rfl, rfl, rfl⟩ rfl rfl))
    sim_bNil))))
theorem spec_law_cauchy {g_law_plus : List D → R D} (ok : G.OK) (fk : FlyOK G) (hd : DefAt G .law_cauchy_ (fArgs (stAt 74)) (fBody (stAt 74)) (fScope (stAt 74))) (h_law_plus : Spec G n .law_plus_ g_law_plus) : Spec G (n + 1) .law_cauchy_ (fnD 2 4 (b_law_cauchy g_law_plus)) :=
  spec_of (ps := [nm "a", nm "b"]) (locs := [nm "found", nm "at", nm "total", nm "spot"]) ok fk hd rfl rfl rfl (fun vs h => match vs, h with | [_, _], _ => fun _ _ _ _ => rfl) (by decide) (by decide) fun c L a cd _ co fr => body_law_cauchy ok h_law_plus c L a cd co fr
theorem body_law_told {g_series_of : List D → R D} (ok : G.OK) (h_series_of : Spec G n .series_of_ g_series_of) (c : Act) (L a : Addr) (cd : Value) (co : c.OK G n) (fr : Frm c (envOfC (Str.ofString (fnStr .law_told_)) (fScope (stAt 75)) L a cd) ([nm "t", nm "order"] ++ [])) :
    BSim G c (envOfC (Str.ofString (fnStr .law_told_)) (fScope (stAt 75)) L a cd) ([nm "t", nm "order"] ++ []) (fBody (stAt 75)) (b_law_told g_series_of) :=
  (sim_bCons (sim_kRet (sim_C (fn := .series_of_) rfl h_series_of ⟨rfl, rfl, rfl⟩ ok co (simL_cons (sim_V 0 rfl ⟨rfl, rfl, rfl⟩ rfl rfl) (simL_cons (sim_K_str 15 (by decide) rfl) (simL_cons (sim_Tup (simL_cons sim_K_int (simL_cons sim_K_int simL_nil rfl) rfl)) (simL_cons (sim_V 1 rfl ⟨rfl, rfl, rfl⟩ rfl rfl) simL_nil rfl) rfl) rfl) rfl) rfl rfl rfl rfl))
    sim_bNil)
theorem spec_law_told {g_series_of : List D → R D} (ok : G.OK) (fk : FlyOK G) (hd : DefAt G .law_told_ (fArgs (stAt 75)) (fBody (stAt 75)) (fScope (stAt 75))) (h_series_of : Spec G n .series_of_ g_series_of) : Spec G (n + 1) .law_told_ (fnD 2 0 (b_law_told g_series_of)) :=
  spec_of (ps := [nm "t", nm "order"]) (locs := []) ok fk hd rfl rfl rfl (fun vs h => match vs, h with | [_, _], _ => fun _ _ _ _ => rfl) (by decide) (by decide) fun c L a cd _ co fr => body_law_told ok h_series_of c L a cd co fr
theorem body_law_deeds_right {g_law_told g_t_sum g_law_plus g_law_cauchy g_t_pow g_t_num g_t_prod : List D → R D} (ok : G.OK) (h_law_told : Spec G n .law_told_ g_law_told) (h_t_sum : Spec G n .t_sum_ g_t_sum) (h_law_plus : Spec G n .law_plus_ g_law_plus) (h_law_cauchy : Spec G n .law_cauchy_ g_law_cauchy) (h_t_pow : Spec G n .t_pow_ g_t_pow) (h_t_num : Spec G n .t_num_ g_t_num) (h_t_prod : Spec G n .t_prod_ g_t_prod) (c : Act) (L a : Addr) (cd : Value) (co : c.OK G n) (fr : Frm c (envOfC (Str.ofString (fnStr .law_deeds_right_)) (fScope (stAt 76)) L a cd) ([nm "a", nm "b", nm "one", nm "other", nm "many"] ++ [nm "due", nm "turn"])) :
    BSim G c (envOfC (Str.ofString (fnStr .law_deeds_right_)) (fScope (stAt 76)) L a cd) ([nm "a", nm "b", nm "one", nm "other", nm "many"] ++ [nm "due", nm "turn"]) (fBody (stAt 76)) (b_law_deeds_right g_law_told g_t_sum g_law_plus g_law_cauchy g_t_pow g_t_num g_t_prod) :=
  (sim_bCons (sim_kIf (simT_Cmp co (sim_C (fn := .law_told_) rfl h_law_told ⟨rfl, rfl, rfl⟩ ok co (simL_cons (sim_C (fn := .t_sum_) rfl h_t_sum ⟨rfl, rfl, rfl⟩ ok co (simL_cons (sim_Lst (simL_cons (sim_V 0 rfl ⟨rfl, rfl, rfl⟩ rfl rfl) (simL_cons (sim_V 1 rfl ⟨rfl, rfl, rfl⟩ rfl rfl) simL_nil rfl) rfl)) simL_nil rfl) rfl rfl rfl rfl) (simL_cons sim_K_int simL_nil rfl) rfl) rfl rfl rfl rfl) (sim_cComp co (xs := [nm "left", nm "right"]) (ys := []) (fun _ => rfl) rfl (by decide) (by decide) rfl (by decide) trivial (cs_zip ⟨rfl, rfl, rfl⟩ ok co (simL_cons (sim_V 2 rfl ⟨rfl, rfl, rfl⟩ rfl rfl) (simL_cons (sim_V 3 rfl ⟨rfl, rfl, rfl⟩ rfl rfl) simL_nil rfl) rfl) rfl rfl rfl rfl rfl rfl rfl rfl (by decide)) (fun C => (sim_C (fn := .law_plus_) rfl h_law_plus ⟨rfl, rfl, rfl⟩ ok co (simL_cons (sim_V 0 rfl ⟨rfl, rfl, rfl⟩ rfl rfl) (simL_cons (sim_V 1 rfl ⟨rfl, rfl, rfl⟩ rfl rfl) simL_nil rfl) rfl) rfl rfl rfl rfl))) rfl) (sim_bCons (sim_kRet sim_K_bool)
    sim_bNil) sim_bNil)
    (sim_bCons (sim_kAs fr rfl (by first | exact .inl rfl | exact .inr ⟨rfl, rfl⟩) (sim_V 2 rfl ⟨rfl, rfl, rfl⟩ rfl rfl) rfl)
    (sim_bCons (sim_kFo co fr rfl (by first | exact .inl rfl | exact .inr ⟨rfl, rfl⟩) (simI_R ⟨rfl, rfl, rfl⟩ ok co (fun _ _ => rfl) (simL_cons (sim_Bin (sim_V 4 rfl ⟨rfl, rfl, rfl⟩ rfl rfl) sim_K_int) simL_nil rfl) rfl rfl rfl rfl rfl) (sim_bCons (sim_kAs fr rfl (by first | exact .inl rfl | exact .inr ⟨rfl, rfl⟩) (sim_C (fn := .law_cauchy_) rfl h_law_cauchy ⟨rfl, rfl, rfl⟩ ok co (simL_cons (sim_V 5 rfl ⟨rfl, rfl, rfl⟩ rfl rfl) (simL_cons (sim_V 2 rfl ⟨rfl, rfl, rfl⟩ rfl rfl) simL_nil rfl) rfl) rfl rfl rfl rfl) rfl)
    sim_bNil) (fun _ => rfl))
    (sim_bCons (sim_kIf (simT_Cmp co (sim_C (fn := .law_told_) rfl h_law_told ⟨rfl, rfl, rfl⟩ ok co (simL_cons (sim_C (fn := .t_pow_) rfl h_t_pow ⟨rfl, rfl, rfl⟩ ok co (simL_cons (sim_V 0 rfl ⟨rfl, rfl, rfl⟩ rfl rfl) (simL_cons (sim_C (fn := .t_num_) rfl h_t_num ⟨rfl, rfl, rfl⟩ ok co (simL_cons (sim_V 4 rfl ⟨rfl, rfl, rfl⟩ rfl rfl) (simL_cons sim_K_int simL_nil rfl) rfl) rfl rfl rfl rfl) simL_nil rfl) rfl) rfl rfl rfl rfl) (simL_cons sim_K_int simL_nil rfl) rfl) rfl rfl rfl rfl) (sim_V 5 rfl ⟨rfl, rfl, rfl⟩ rfl rfl) rfl) (sim_bCons (sim_kRet sim_K_bool)
    sim_bNil) sim_bNil)
    (sim_bCons (sim_kRet (sim_Cmp co (sim_C (fn := .law_told_) rfl h_law_told ⟨rfl, rfl, rfl⟩ ok co (simL_cons (sim_C (fn := .t_prod_) rfl h_t_prod ⟨rfl, rfl, rfl⟩ ok co (simL_cons (sim_Lst (simL_cons (sim_V 0 rfl ⟨rfl, rfl, rfl⟩ rfl rfl) (simL_cons (sim_V 1 rfl ⟨rfl, rfl, rfl⟩ rfl rfl) simL_nil rfl) rfl)) simL_nil rfl) rfl rfl rfl rfl) (simL_cons sim_K_int simL_nil rfl) rfl) rfl rfl rfl rfl) (sim_C (fn := .law_cauchy_) rfl h_law_cauchy ⟨rfl, rfl, rfl⟩ ok co (simL_cons (sim_V 2 rfl ⟨rfl, rfl, rfl⟩ rfl rfl) (simL_cons (sim_V 3 rfl ⟨rfl, rfl, rfl⟩ rfl rfl) simL_nil rfl) rfl) rfl rfl rfl rfl) rfl))
    sim_bNil)))))
theorem spec_law_deeds_right {g_law_told g_t_sum g_law_plus g_law_cauchy g_t_pow g_t_num g_t_prod : List D → R D} (ok : G.OK) (fk : FlyOK G) (hd : DefAt G .law_deeds_right_ (fArgs (stAt 76)) (fBody (stAt 76)) (fScope (stAt 76))) (h_law_told : Spec G n .law_told_ g_law_told) (h_t_sum : Spec G n .t_sum_ g_t_sum) (h_law_plus : Spec G n .law_plus_ g_law_plus) (h_law_cauchy : Spec G n .law_cauchy_ g_law_cauchy) (h_t_pow : Spec G n .t_pow_ g_t_pow) (h_t_num : Spec G n .t_num_ g_t_num) (h_t_prod : Spec G n .t_prod_ g_t_prod) : Spec G (n + 1) .law_deeds_right_ (fnD 5 2 (b_law_deeds_right g_law_told g_t_sum g_law_plus g_law_cauchy g_t_pow g_t_num g_t_prod)) :=
  spec_of (ps := [nm "a", nm "b", nm "one", nm "other", nm "many"]) (locs := [nm "due", nm "turn"]) ok fk hd rfl rfl rfl (fun vs h => match vs, h with | [_, _, _, _, _], _ => fun _ _ _ _ => rfl) (by decide) (by decide) fun c L a cd _ co fr => body_law_deeds_right ok h_law_told h_t_sum h_law_plus h_law_cauchy h_t_pow h_t_num h_t_prod c L a cd co fr
end
end Mine
end
section
open PySem
namespace Mine
noncomputable def f_gcd : List D → R D := fnD 2 0 b_gcd
noncomputable def f_rat : List D → R D := fnD 2 1 (b_rat f_gcd)
end Mine
end
section
open PySem PySem.W PyProof.Rows PySem.Calls PySem.Spec
namespace Mine

mutual
theorem repB_rep {h : Heap} : ∀ (d : D) (v : Value), repB h d v = true → Rep (fun _ => False) h v d
  | .none, v, e => by cases v <;> first | exact .none | (simp [repB] at e)
  | .no, v, e => by cases v <;> simp [repB] at e
  | .lst _, v, e => by cases v <;> simp [repB] at e
  | .own _, v, e => by cases v <;> simp [repB] at e
  | .bool b, v, e => by
    cases v <;> simp [repB] at e
    subst e; exact .bool _
  | .int i, v, e => by
    cases v <;> simp [repB] at e
    subst e; exact .int _ _
  | .str n, v, e => by
    cases v <;> simp only [repB, Bool.and_eq_true, beq_iff_eq, Bool.false_eq_true] at e
    rw [e.2]; exact .str _ _ (Nat.le_of_ble_eq_true e.1)
  | .tup l, v, e => by
    cases v with
    | ref a =>
      rw [repB] at e
      split at e
      · rename_i o ho
        rw [Bool.and_eq_true, beq_iff_eq] at e
        obtain ⟨e1, e2⟩ := e
        split at e2
        · rename_i vs k hd
          exact .tup ho (fun z => z) e1 hd (repsB_rep l vs.toList e2)
        · cases e2
      · cases e
    | _ => simp [repB] at e
theorem repsB_rep {h : Heap} : ∀ (ds : List D) (vs : List Value), repsB h ds vs = true → RepAll (fun _ => False) h vs ds
  | [], [], _ => .nil
  | [], _ :: _, e => by simp [repsB] at e
  | _ :: _, [], e => by simp [repsB] at e
  | d :: ds, v :: vs, e => by
    rw [repsB, Bool.and_eq_true] at e
    exact .cons (repB_rep d v e.1) (repsB_rep ds vs e.2)
end

structure ClsF (m : Str → Option Value) (h : Heap) (C f N : Addr) (mN : Str → Option Value) : Prop where
  at_ : m (nm "CasFail") = some (.ref C)
  obj : ∃ nm' q bs sn sub ab col dd k0 k1 k2 k3 k5, h.get? C = some (excClassObj nm' q C N bs exBm true sn sub ab col dd k0 k1 k2 k3 k5 "Exception.__new__")
  ns : h.Ns N mN
  init : mN (nm "__init__") = some (.ref f)
  quiet : ∀ x ∈ quiet, mN (nm x) = none
  fn : ∃ fo fd, h.get? f = some fo ∧ fo.cls = .type "function" ∧ fo.data = .func fd ∧ bare fd = initFd ∧ h.CodeRec fd.code fd.qualname
theorem ClsF.keeps {m mN : Str → Option Value} {h h' : Heap} {C f N : Addr} (x : ClsF m h C f N mN) (k : ∀ b o, h.get? b = some o → h'.get? b = some o) : ClsF m h' C f N mN where
  at_ := x.at_
  obj := let ⟨a1, a2, a3, a4, a5, a6, a7, a8, a9, b1, b2, b3, b4, e⟩ := x.obj; ⟨a1, a2, a3, a4, a5, a6, a7, a8, a9, b1, b2, b3, b4, k _ _ e⟩
  ns := x.ns.keeps k
  init := x.init
  quiet := x.quiet
  fn := let ⟨fo, fd, e1, e2, e3, e4, e5⟩ := x.fn; ⟨fo, fd, k _ _ e1, e2, e3, e4, e5.keeps k⟩
noncomputable def Says (h : Heap) : Prop := ∃ m, h.Ns mainGlobals m ∧ (∀ p ∈ constTab, ∃ v, m (Str.ofString p.1) = some v ∧ Rep (fun _ => False) h v p.2) ∧ ∃ C f N mN, ClsF m h C f N mN
theorem Says.keeps {h h' : Heap} (x : Says h) (k : ∀ b o, h.get? b = some o → h'.get? b = some o) : Says h' :=
  let ⟨m, n, c, C, f, N, mN, F⟩ := x
  ⟨m, n.keeps k, fun p hp => let ⟨v, e, r⟩ := c p hp; ⟨v, e, r.stays k⟩, C, f, N, mN, F.keeps k⟩
theorem says_of {h : Heap} (e1 : seeCls h = some (true, initFd)) (e2 : seeConst h = true) : Says h := by
  unfold seeConst at e2
  rw [Bool.and_eq_true] at e2
  refine ⟨_, .of_isNs e2.1, fun p hp => ?_, ?_⟩
  · have := List.all_eq_true.mp e2.2 p hp
    obtain ⟨v, hv, hr⟩ := Option.any_eq_true _ _ |>.mp this
    exact ⟨v, hv, repB_rep _ _ hr⟩
  · unfold seeCls at e1
    split at e1
    · rename_i C o cd hcls
      obtain ⟨hn, ho, hd⟩ := Heap.clsAt_spec hcls
      split at e1
      · rename_i f hf
        split at e1
        · rename_i fo hfo
          split at e1
          · rename_i fd hfd
            simp only [Option.some.injEq, Prod.mk.injEq, Bool.and_eq_true, beq_iff_eq, Bool.not_eq_true'] at e1
            obtain ⟨⟨q1, q2, q3, q4, q5, q6, q7, q8, q9, q10⟩, q11⟩ := e1
            obtain ⟨oc, dd, dt, sl⟩ := o
            obtain ⟨nm', bs, mro, N, q, hdct, sn, sub, ab, col, hdel⟩ := cd
            obtain ⟨l⟩ := sl
            obtain ⟨k0, k1, k2, k3, k5, rfl⟩ := six_places (l := l) (by simpa using q5) (by simpa using q6)
            dsimp only at *
            subst q1 q2 q3 q4
            subst hd
            refine ⟨C, f, N, _, hn, ⟨nm', q, bs, sn, sub, ab, col, dd, k0, k1, k2, k3, k5, ho⟩, .of_isNs q7, hf, fun x hx => ?_, fo, fd, hfo, q9, hfd, q11, .of_ok q10⟩
            exact Option.isNone_iff_eq_none.mp (List.all_eq_true.mp q8 x hx)
          · cases e1
        · cases e1
      · cases e1
    · cases e1
theorem says_of_all {h : Heap} (e : seeAll h = some initFd) : Says h := by
  unfold seeAll at e
  split at e
  · rename_i b fd he
    split at e
    · rename_i hb
      rw [Bool.and_eq_true] at hb
      cases e
      refine says_of ?_ hb.2
      rw [he, hb.1]
    · cases e
  · cases e
end Mine
end
section
open PySem PySem.W PyProof.Rows PySem.Calls PySem.Spec
namespace Mine

/-- the exception of the kind 'domain' on its way -/
noncomputable def Air (base : Heap) (l : List Env) (C e : Addr) (st : Option Value) (h : Heap) : Prop :=
  base.StaysIn h ∧ base.get? e = none ∧ h.FunFrames base l ∧ ∃ oe vs dx m tk, h.get? e = some oe ∧ oe.cls = .ref C ∧ oe.dict = some dx ∧ oe.data = .fields vs ∧ h.Ns dx m ∧ m (nm "kind") = some (.str (strOf 14) tk) ∧ (∀ v ∈ l, v.frame ≠ some dx) ∧
    match st with
    | none => vs[1]? = some .none
    | some fl => ∃ T oT ts, vs[1]? = some (.ref T) ∧ base.get? T = none ∧ T ≠ e ∧ h.get? T = some oT ∧ oT.data = .fields ts ∧ ts[3]? = some fl
noncomputable def FlyD (base : Heap) (C : Addr) (l : List Env) (k : Nat) (e : Addr) (h : Heap) : Prop := k = 0 ∧ (Air base l C e none h ∨ Air base l C e (some .none) h)

theorem dict_mapFields (f : Array Value → Array Value) (o : Obj) : (o.mapFields f).dict = o.dict := by
  obtain ⟨c, d, dt, sl⟩ := o
  cases dt <;> rfl

section
variable {M : Model} {A : Around} {E : Value → Shared → Prop} {s : Shared} {base : Heap} {env : Env} {outer l : List Env} {L C e : Addr}

theorem not_rec {h : Heap} {e : Addr} {oe : Obj} {vs : Array Value} (he : h.get? e = some oe) (hd : oe.data = .fields vs) {b : Addr} {o : Obj} (hb : h.get? b = some o) (hn : ∀ vs, o.data ≠ .fields vs) : b ≠ e := fun q => by
  rw [q, he] at hb; cases hb; exact hn vs hd
theorem air_entry {oe : Obj} {vs : Array Value} {dx : Addr} {m : Str → Option Value} {tk : Tok} {head : Value} {hadNext : Bool} {Q : Unit → Shared → Prop} (hfr : A.frames = some (env :: outer)) (hl : s.heap.FunFrames base (env :: outer)) (hf : env.frame = some L)
    (hkb : base.StaysIn s.heap) (hen : base.get? e = none) (he : s.heap.get? e = some oe) (hc : oe.cls = .ref C) (hdx : oe.dict = some dx) (hd : oe.data = .fields vs) (hsz : 1 < vs.size) (hns : s.heap.Ns dx m) (hm : m (nm "kind") = some (.str (strOf 14) tk)) (hfd : ∀ v ∈ env :: outer, v.frame ≠ some dx)
    (k : ∀ h', Air base (env :: outer) C e (some (rawInt L)) h' → s.heap.UpToSlots h' → Q () { s with heap := h' }) :
    wpAny M A (do let a ← frameOf env; let pl ← entryPlaceOf L hadNext; let b ← EntryCells.newEntry head a .none (rawInt L) .none pl; setField (.ref e) 1 b) Q E s := by
  refine wpAny_bind (wpAny_frameOf_fun hfr hl hf fun h₁ hs₁ => ?_)
  refine wpAny_bind (wpAny_entryPlaceOf fun pl hpl => ?_)
  unfold EntryCells.newEntry newFields
  refine wpAny_bind (wpAny_newObj_type ?_ (hpl.sizeOk5 _ _ _ _ _))
  generalize hTo : ({ cls := .type "traceback", dict := none, data := .fields ([head, .ref L, .none, rawInt L, .none] ++ (if pl.isEmpty then List.replicate 6 Value.none else pl)).toArray } : Obj) = To
  have hene : e ∉ (env :: outer).filterMap (·.frame) := fun hm => by
    obtain ⟨_, o, ho, hnf⟩ := hl.mem hm
    rw [he] at ho; cases ho; exact hnf vs hd
  have he₁ : h₁.get? e = some oe := (hs₁.2.1 e hene).trans he
  have kb₁ : base.StaysIn h₁ := fun b o hbo => (hs₁.2.1 b fun hm => by rw [(hl.mem hm).1] at hbo; cases hbo).trans (hkb b o hbo)
  have u₁ : s.heap.UpToSlots h₁ := fun b o hb _ => hs₁.2.2 b o hb
  have nT : h₁.objs.size ≠ e := Nat.ne_of_gt (Heap.lt_size he₁)
  have he₂ : (h₁.push To).get? e = some oe := Heap.get?_push_of_some _ he₁
  refine wpAny_setField he₂ hd hsz ?_
  have hd₃ := Obj.data_mapFields hd (·.setIfInBounds 1 (Value.ref h₁.objs.size))
  have keep : ∀ b o, b ≠ e → h₁.get? b = some o → ((h₁.push To).update e (Obj.mapFields (·.setIfInBounds 1 (Value.ref h₁.objs.size)))).get? b = some o := fun b o hbe hb => by
    rw [Heap.get?_update_other _ _ (Ne.symm hbe)]
    exact Heap.get?_push_of_some _ hb
  have u₃ : s.heap.UpToSlots ((h₁.push To).update e (Obj.mapFields (·.setIfInBounds 1 (Value.ref h₁.objs.size)))) := fun b o hb hn => by
    obtain ⟨sl, q⟩ := u₁ b o hb hn
    exact ⟨sl, keep b _ (not_rec he hd hb hn) q⟩
  refine k _ ⟨fun b o hbo => keep b o (fun q => by rw [q, hen] at hbo; cases hbo) (kb₁ b o hbo), hen, hl.of_keeps fun b o hb hn => ?_, _, _, dx, m, tk, Heap.get?_update_self _ he₂ (Obj.isFreed_of_fields hd₃), (Obj.cls_mapFields _ _).trans hc, (dict_mapFields _ _).trans hdx, hd₃, u₃.ns hns, hm, hfd, ?_⟩ u₃
  · obtain ⟨sl, q⟩ := u₃ b o hb hn
    exact ⟨_, q, rfl⟩
  · refine ⟨h₁.objs.size, To, _, by simp [hsz], kb₁.fresh, nT, ?_, by rw [← hTo], by first | (simp; done) | (rcases hpl with rfl | ⟨_, _, _, _, _, _, _, rfl⟩ <;> simp)⟩
    rw [Heap.get?_update_other _ _ (Ne.symm nT)]
    exact Heap.get?_push_size _ (by rw [← hTo]; rfl)

theorem air_note {st : Option Value} (hst : st = none ∨ st = some .none) {Q : Unit → Shared → Prop} (hfr : A.frames = some (env :: outer)) (hf : env.frame = some L) (a : Air base (env :: outer) C e st s.heap)
    (k : ∀ h', Air base (env :: outer) C e (some (rawInt L)) h' → s.heap.UpToSlots h' → Q () { s with heap := h' }) : wpAny M A (noteFrame (.ref e) env) Q E s := by
  obtain ⟨hkb, hen, hl, oe, vs, dx, m, tk, he, hc, hdx, hd, hns, hm, hfd, hst'⟩ := a
  unfold noteFrame
  simp only [hf]
  rcases hst with rfl | rfl
  · refine wpAny_bind (wpAny_field he hd hst' ?_)
    rw [if_neg (by decide)]
    exact air_entry hfr hl hf hkb hen he hc hdx hd (Array.getElem?_eq_some_iff.mp hst').1 hns hm hfd k
  · obtain ⟨T, oT, ts, h1, hnT, hTe, hT, hdT, h3⟩ := hst'
    refine wpAny_bind (wpAny_field he hd h1 ?_)
    rw [if_pos (show (Value.ref T != Value.none) = true from by simp)]
    refine wpAny_bind (wpAny_field hT hdT h3 ?_)
    rw [if_neg (show ¬ ((Value.none == rawInt L) = true) from by simp [rawInt])]
    refine wpAny_bind (wpAny_setField hT hdT (Array.getElem?_eq_some_iff.mp h3).1 ?_)
    have other : ∀ b, b ≠ T → (s.heap.update T (Obj.mapFields (·.setIfInBounds 3 Value.none))).get? b = s.heap.get? b := fun b hb => Heap.get?_update_other _ _ (Ne.symm hb)
    have u : s.heap.UpToSlots (s.heap.update T (Obj.mapFields (·.setIfInBounds 3 Value.none))) := fun b o hb hn => ⟨o.slots, (other b (not_rec hT hdT hb hn)).trans hb⟩
    exact air_entry (s := { s with heap := s.heap.update T (Obj.mapFields (·.setIfInBounds 3 Value.none)) }) hfr (hl.of_keeps fun b o hb hn => ⟨o, (other b (not_rec hT hdT hb hn)).trans hb, rfl⟩) hf (fun b o hbo => (other b fun q => by rw [q, hnT] at hbo; cases hbo).trans (hkb b o hbo)) hen ((other e (Ne.symm hTe)).trans he) hc hdx hd (Array.getElem?_eq_some_iff.mp h1).1 (u.ns hns) hm hfd
      fun h' a' u' => k h' a' (u.trans u')

theorem air_land {fl : Value} {Q : Unit → Shared → Prop} (a : Air base l C e (some fl) s.heap) (k : ∀ h', Air base l C e (some .none) h' → s.heap.UpToSlots h' → Q () { s with heap := h' }) : wpAny M A (setFlight (.ref e) none) Q E s := by
  obtain ⟨hkb, hen, hl, oe, vs, dx, m, tk, he, hc, hdx, hd, hns, hm, hfd, T, oT, ts, h1, hnT, hTe, hT, hdT, h3⟩ := a
  have hsz := (Array.getElem?_eq_some_iff.mp h3).1
  refine wpAny_setFlight_none he hd h1 hT hdT hsz ?_
  have other : ∀ b, b ≠ T → (s.heap.update T (Obj.mapFields (·.setIfInBounds 3 Value.none))).get? b = s.heap.get? b := fun b hb => Heap.get?_update_other _ _ (Ne.symm hb)
  have u : s.heap.UpToSlots (s.heap.update T (Obj.mapFields (·.setIfInBounds 3 Value.none))) := fun b o hb hn => ⟨o.slots, (other b (not_rec hT hdT hb hn)).trans hb⟩
  have hdT' := Obj.data_mapFields hdT (·.setIfInBounds 3 Value.none)
  refine k _ ⟨fun b o hbo => (other b fun q => by rw [q, hnT] at hbo; cases hbo).trans (hkb b o hbo), hen, hl.of_keeps fun b o hb hn => ⟨o, (other b (not_rec hT hdT hb hn)).trans hb, rfl⟩, oe, vs, dx, m, tk, (other e (Ne.symm hTe)).trans he, hc, hdx, hd, u.ns hns, hm, hfd, T, _, _, h1, hnT, hTe, Heap.get?_update_self _ hT (Obj.isFreed_of_fields hdT'), hdT', by simp [hsz]⟩ u
theorem air_out {st : Option Value} {h : Heap} (a : Air base (env :: outer) C e st h) : Air base outer C e st h := by
  obtain ⟨a1, a2, ⟨_, _, a3⟩, oe, vs, dx, m, tk, b1, b2, b3, b4, b5, b6, b7, r⟩ := a
  exact ⟨a1, a2, a3, oe, vs, dx, m, tk, b1, b2, b3, b4, b5, b6, fun v hv => b7 v (List.mem_cons_of_mem _ hv), r⟩
theorem air_leave {k : Nat} {Q : Unit → Shared → Prop} (hfr : A.frames = some (env :: outer)) (hf : env.frame = some L) (fl : FlyD base C (env :: outer) k e s.heap)
    (q : ∀ h', FlyD base C outer k e h' → s.heap.UpToSlots h' → Q () { s with heap := h' }) : wpAny M A (leaving env (.ref e)) Q E s := by
  obtain ⟨rfl, a⟩ := fl
  unfold leaving
  refine wpAny_bind ?_
  rcases a with a | a
  · refine air_note (.inl rfl) hfr hf a fun h' a' u => ?_
    exact air_land (s := { s with heap := h' }) a' fun h'' a'' u' => q h'' ⟨rfl, .inr (air_out a'')⟩ (u.trans u')
  · refine air_note (.inr rfl) hfr hf a fun h' a' u => ?_
    exact air_land (s := { s with heap := h' }) a' fun h'' a'' u' => q h'' ⟨rfl, .inr (air_out a'')⟩ (u.trans u')
end
end Mine
end
section
open PySem PySem.W PyProof.Rows PySem.Calls PySem.Spec
open Builtin Builtin.ObjectAttr
set_option maxRecDepth 100000
namespace Mine

section
variable {prog : Program} {w : World} {A : Around} {E : Value → Shared → Prop} {h : Heap} {g : Array GenState} {d : Drawn} {t : Nat} {os : OsState}
variable {nm' q : Str} {C N x : Addr} {bs bm : List Value} {sn : List Str} {sub : List Value} {ab : Bool} {col : Option Bool} {dd : Option Addr} {k0 k1 k2 k3 k5 : Option Value} {B newId sa owner : String}
  {mN : Str → Option Value} {name : Str} {v : Value} {o : Obj}

theorem first_entry {tk : Tok} {Q : Fin → Shared → Prop} (SF : StoreFacts B bm sa owner)
    (hC : h.get? C = some (excClassObj nm' q C N bs bm true sn sub ab col dd k0 k1 k2 k3 k5 newId)) (hn : h.Ns N mN) (hna : mN name = none) (hB : typeLookup (.type B) name = pure none)
    (hx : h.get? x = some o) (hc : o.cls = .ref C) (hnc : ∀ c, o.data ≠ .cls c) (hdn : o.dict = none)
    (hq : ∀ h' tk', h'.get? x = some { o with dict := some h.objs.size } → h'.Ns1 h.objs.size (fun y => if y = name then some v else none) → (∀ b ob, b ≠ x → h.get? b = some ob → h'.get? b = some ob) → Q (.done (.ret .none)) ⟨h', g, d, tk', os⟩) :
    wpAny (model prog w) A (Builtin.«object.__setattr__» ⟨[.ref x, .str name tk, v], []⟩) Q E ⟨h, g, d, t, os⟩ := by
  have hpass := SF.passes (.ref x)
  unfold Builtin.«object.__setattr__»
  repeat (first | rw [refuse_eq] | (rw [refuseLoop_ref, hpass]) | (with_reducible refine wpAny_loadPart_at hx ?_; rw [hc]) | with_reducible refine wpAny_mroOf_exc hC ?_ | (with_reducible refine wpAny_typeLookup_exc hC hn SF.mro hB ?_; rw [hna]) | wp_step)
  rw [hdn, if_neg (by simp [typeHasDict])]
  split
  · rename_i hcd; cases hcd
  split
  · rename_i c hcd; exact absurd hcd (hnc c)
  · have hx₁ : (h.push { cls := .type "dict", data := .dict #[] }).get? x = some o := Heap.get?_push_of_some _ hx
    have hxs : x ≠ h.objs.size := Nat.ne_of_lt (Heap.lt_size hx)
    refine wpAny_bind (wpAny_alloc' ?_)
    refine wpAny_bind (wpAny_update' hx₁ ?_)
    refine wpAny_pure ?_
    have hgd : ((h.push { cls := .type "dict", data := .dict #[] }).update x fun o => { cls := o.cls, dict := some h.objs.size, data := o.data, slots := o.slots }).get? h.objs.size = some { cls := .type "dict", data := .dict #[] } :=
      (Heap.get?_update_ne _ _ _ _ hxs.symm).trans (Heap.get?_push_at rfl rfl)
    have hnd : ((h.push { cls := .type "dict", data := .dict #[] }).update x fun o => { cls := o.cls, dict := some h.objs.size, data := o.data, slots := o.slots }).Ns h.objs.size (fun _ => none) :=
      ⟨_, #[], _, hgd, rfl, fun e he => absurd he (by simp), fun _ => rfl⟩
    show wpAny _ _ (storeInDict h.objs.size (.str name tk) name v) _ _ _
    unfold storeInDict newKeyGuard
    refine wpAny_bind (wpAny_pure (wpAny_bind (wpAny_nsSet1 (Heap.Ns1.of_empty hnd) fun h' hn' hs => ?_)))
    obtain ⟨oD, esD, epD, hoD, hdD, hcD⟩ := hn'.count (Within.cons name v Within.nil)
    refine wpAny_bind (wpAny_lookBehind hoD (by rw [hdD]; exact pastItsLine_dict (Nat.le_trans hcD (by rw [List.length_cons, List.length_nil, sizeLine_eq]; omega))) ?_)
    wp_walk
    refine hq h' _ ?_ hn' fun b ob hbx hb => ?_
    · refine (hs.2 x hxs).trans (Heap.get?_update_self _ hx₁ ?_)
      have hfr := (Heap.get?_some_iff.mp hx).2
      obtain ⟨oc, od, odt, osl⟩ := o
      cases odt <;> first | rfl | exact hfr
    · exact (hs.2 b (Nat.ne_of_lt (Heap.lt_size hb))).trans ((Heap.get?_update_ne _ _ _ _ hbx).trans (Heap.get?_push_of_some _ hb))

theorem first_attr {Q : Unit → Shared → Prop} (SF : StoreFacts B bm sa owner)
    (hC : h.get? C = some (excClassObj nm' q C N bs bm true sn sub ab col dd k0 k1 k2 k3 k5 newId)) (hn : h.Ns N mN) (hns : mN "__setattr__" = none) (hna : mN name = none) (hB : typeLookup (.type B) name = pure none)
    (hx : h.get? x = some o) (hc : o.cls = .ref C) (hnc : ∀ c, o.data ≠ .cls c) (hdn : o.dict = none)
    (hq : ∀ h' tk', h'.get? x = some { o with dict := some h.objs.size } → h'.Ns1 h.objs.size (fun y => if y = name then some v else none) → (∀ b ob, b ≠ x → h.get? b = some ob → h'.get? b = some ob) → Q () ⟨h', g, d, tk', os⟩) :
    wpAny (model prog w) A (setAttr (.ref x) name v) Q E ⟨h, g, d, t, os⟩ := by
  have f3 := SF.slot.bind (.ref x)
  unfold setAttr callSpecial? specialOf
  repeat (any_goals (first | assumption | (with_reducible refine wpAny_loadPart_at hx ?_; rw [hc]) | (with_reducible refine wpAny_typeLookup_exc hC hn SF.mro SF.slot.lookup ?_; rw [hns]) | wp_step))
  refine codeAny_call_builtin SF.slot.plain SF.entry (wpAny_check_sa SF hC hx hc (first_entry SF hC hn hna hB hx hc hnc hdn fun h' tk' a b c => ?_))
  repeat (any_goals (first | assumption | wp_step))
  exact hq h' tk' a b c
end
end Mine
end
section
open PySem PySem.W PyProof.Rows PySem.Calls PySem.Spec
set_option maxRecDepth 100000
namespace Mine

theorem bare_fd {fd fd' : FuncData} (h : bare fd = fd') : fd = { fd' with pyModule := fd.pyModule, code := fd.code, doc := fd.doc, annotations := fd.annotations, closureTuple := fd.closureTuple } := by
  subst h; cases fd; rfl
theorem lk_kind : typeLookup (.type "Exception") (nm "kind") = pure none := by rw [typeLookup_type, builtinLookup_eq_fast]; kernel_rfl
theorem lk_text : typeLookup (.type "Exception") (nm "text") = pure none := by rw [typeLookup_type, builtinLookup_eq_fast]; kernel_rfl

section
variable {prog : Program} {w : World} {A : Around} {E : Value → Shared → Prop} {s : Shared}

theorem getm_init {pl : Sem Bool} {Q : Value × List Value → Shared → Prop} (h : ∀ tk, Q (.builtin "Exception.__init__", []) { s with toks := tk }) :
    wpAny (model prog w) A (getMethod (.type "Exception") (nm "__init__") pl) Q E s := by
  have X : Frag.In [] s.heap := fun _ _ e => by cases e
  have hstub : opaqueClassAbove (.type "Exception") = pure none := by unfold opaqueClassAbove; dsimp only; rw [show Manifest.isStub "Exception" = false by decide +kernel]; rfl
  have ht : typeOf (.type "Exception") = pure (.type "type") := by first | rfl | kernel_rfl
  have L0 : Looks (model prog w) s.heap (typeOf (.type "Exception")) (.type "type") := Looks.of_pure ht
  have hg : findIn [] (.type "type") "__getattribute__" = some (some (.builtin "type.__getattribute__")) := by rfl
  have e : findCls [] (.type "Exception") (.type "type") (nm "__init__") = some (.val (.builtin "Exception.__init__")) := by rfl
  unfold getMethod specialOf
  refine wpAny_bind (wpAny_bind (L0.here ((looks_findIn X hg).here ?_)))
  dsimp only
  rw [if_pos canon_tga]
  refine wpAny_bind (wpAny_mono (Q := fun v => Q (v, [])) (E := E) ?_ (fun _ _ z => wpAny_pure z) fun _ _ z => z)
  have LO : Looks (model prog w) s.heap (opaqueClassAbove (.type "Exception")) none := Looks.of_pure hstub
  refine cls_open X LO L0 hg (looks_hook X (r := none) (by rfl)) (by show subIn [] _ _ = _; rfl) e ?_
  exact wpAny_pure (by show wpAny _ _ (handedOut (.builtin "Exception.__init__")) _ _ _; rw [handedOut_of (by rfl)]; exact wpAny_pure (h _))

noncomputable abbrev excObj (C t : Addr) (dx : Option Addr) : Obj := { cls := .ref C, dict := dx, data := .fields #[.ref t, .none, .none, .none, .bool false, .none] }

theorem base_init {C N e t : Addr} {m mN : Str → Option Value} {f : Addr} (cf : ClsF m s.heap C f N mN) (he : s.heap.get? e = some (excObj C t none)) {v : Value} {Q : Value → Shared → Prop}
    (h : ∀ h' t', h'.get? e = some (excObj C t' none) → (∀ b o, b ≠ e → s.heap.get? b = some o → h'.get? b = some o) → Q .none { s with heap := h' }) :
    wpAny (model prog w) A (call (.builtin "Exception.__init__") [.ref e, v]) Q E s := by
  obtain ⟨nm', q, bs, sn, sub, ab, col, dd, k0, k1, k2, k3, k5, hC⟩ := cf.obj
  obtain ⟨hh, g, d, tk, os⟩ := s
  have F := PySem.F.excBase_Exception
  refine wpAny_call (codeAny_call_builtin F.init.plain F.initEntry (wpAny_check_init_sub F hC he rfl ?_))
  wp_walk
  refine h _ hh.objs.size ?_ fun b o hb hbo => ?_
  · rw [Heap.get?_update_self _ (Heap.get?_push_of_some _ he) rfl]; rfl
  · rw [Heap.get?_update_other _ _ (Ne.symm hb)]; exact Heap.get?_push_of_some _ hbo

theorem ld {M : Model} {env : Env} {x : Str} {pos : Pos} {v : Value} {m : Str → Option Value} {Q : Value → Shared → Prop} (hk : env.scope.kind = .function) (k : env.kindOf x = some .local) (e : m x = some v) (hd : (x == ("__debug__" : Str)) = false) (ns : s.heap.Ns env.locals m) (h : Q v s) :
    wpAny M A (eval (.Name x pos) env) Q E s := wpAny_Name (wpAny_loadName_local hk k ns e h) hd
noncomputable def txtS : Str := nm "a series has powers below 0"
theorem init_call {C N e t f : Addr} {m mN mB : Str → Option Value} (cf : ClsF m s.heap C f N mN) (gm : s.heap.Ns mainGlobals m) (gb : s.heap.Ns builtinsNs mB) (hE : m (nm "Exception") = none) (hEb : mB (nm "Exception") = some (.type "Exception"))
    (lim : s.heap.NoLimit) (hroom : A.depth < recursionLimit) (he : s.heap.get? e = some (excObj C t none)) {u1 u2 : Tok} {Q : Value → Shared → Prop}
    (h : ∀ h' tk dx t' m', s.heap.get? dx = none → (∀ b o, b ≠ e → s.heap.get? b = some o → h'.get? b = some o) → h'.get? e = some (excObj C t' (some dx)) → h'.Ns dx m' → m' (nm "kind") = some (.str (strOf 14) u1) → Q .none { s with heap := h', toks := tk }) :
    wpAny (model prog w) A (call (.ref f) [.ref e, .str (strOf 14) u1, .str txtS u2]) Q E s := by
  obtain ⟨nm', q, bs, sn, sub, ab, col, dd, k0, k1, k2, k3, k5, hC⟩ := cf.obj
  obtain ⟨fo, fd, hf, hfc, hfd, hbare, hcd⟩ := cf.fn
  have hfd' := bare_fd hbare
  generalize fd.pyModule = pm at hfd'
  generalize hcode : fd.code = code at hfd' hcd
  generalize fd.doc = doc at hfd'
  generalize fd.annotations = an at hfd'
  generalize fd.closureTuple = ct at hfd'
  subst hfd'
  have neOf : ∀ {b o}, s.heap.get? b = some o → (∀ vs, o.data ≠ .fields vs) → b ≠ e := fun hb hn z => by
    rw [z, he] at hb; cases hb; exact hn _ rfl
  have nsNe : ∀ {b m}, s.heap.Ns b m → b ≠ e := fun ⟨o, es, ep, e1, d1, _⟩ => neOf e1 fun vs z => by rw [d1] at z; cases z
  refine wpAny_call ?_
  refine codeAny_call_cells (fd := _) (binds := [(nm "self", .ref e), (nm "kind", .str (strOf 14) u1), (nm "text", .str txtS u2)]) hroom hf hfd lim hcd rfl rfl rfl (fun x hx => .inl ?_) (fun s₁ x => ?_) rfl rfl rfl
  · simp only [List.mem_cons, List.not_mem_nil, or_false] at hx
    rcases hx with rfl | rfl | rfl <;> rfl
  · generalize hL : s.heap.objs.size = L at *
    obtain ⟨h₁, tk₁, rfl, keep₁⟩ := x.done
    generalize hEnv : callEnvC _ L f = env at *
    have hEl : env.locals = L := by rw [← hEnv]; rfl
    have hEk : env.scope.kind = .function := by rw [← hEnv]; rfl
    have hEg : env.globals = mainGlobals := by rw [← hEnv]; rfl
    have hEb' : env.builtins = builtinsNs := by rw [← hEnv]; rfl
    have hE0 : ∀ y, env.kindOf y = (fScope initS).names.lookup y := fun y => by rw [← hEnv]; rfl
    have nsL : h₁.Ns L _ := hEl ▸ x.toInCall.ns
    have fresh : ∀ {b o}, s.heap.get? b = some o → b ≠ L := fun e z => by have := Heap.lt_size e; rw [z, hL] at this; exact Nat.lt_irrefl _ this
    have k1 : env.kindOf (nm "self") = some .local := (hE0 _).trans rfl
    have k2 : env.kindOf (nm "kind") = some .local := (hE0 _).trans rfl
    have k3 : env.kindOf (nm "text") = some .local := (hE0 _).trans rfl
    have k4 : env.kindOf (nm "Exception") = some .globalImplicit := (hE0 _).trans rfl
    have ndp : [nm "self", nm "kind", nm "text"].Nodup := by decide
    have v1 := bindL_at (kindOf := env.kindOf) [nm "self", nm "kind", nm "text"] [.ref e, .str (strOf 14) u1, .str txtS u2] (fun _ => none) 0 _ _ ndp rfl rfl k1
    have v2 := bindL_at (kindOf := env.kindOf) [nm "self", nm "kind", nm "text"] [.ref e, .str (strOf 14) u1, .str txtS u2] (fun _ => none) 1 _ _ ndp rfl rfl k2
    have v3 := bindL_at (kindOf := env.kindOf) [nm "self", nm "kind", nm "text"] [.ref e, .str (strOf 14) u1, .str txtS u2] (fun _ => none) 2 _ _ ndp rfl rfl k3
    change h₁.Ns L (bindL env.kindOf ([nm "self", nm "kind", nm "text"].zip [.ref e, .str (strOf 14) u1, .str txtS u2]) fun _ => none) at nsL
    generalize hm : bindL env.kindOf ([nm "self", nm "kind", nm "text"].zip [.ref e, .str (strOf 14) u1, .str txtS u2]) (fun _ => none) = mL at *
    have he₁ : h₁.get? e = some (excObj C t none) := keep₁ _ _ he
    have hi : interactive env = false := by unfold interactive; rw [hEk]; rfl
    have neL : e ≠ L := fresh he
    -- the base's own words
    refine wpAny_execs_cons (wpAny_Expr ?_ hi rfl)
    rw [arm_eval_Call]
    refine wpAny_bind (Name_function_global hEk k4 (loadGlobal_builtin (by rw [hEg]; exact gm.keeps keep₁) hE (by rw [hEb']; exact gb.keeps keep₁) hEb ?_) rfl)
    refine wpAny_bind (wpAny_standAt ?_)
    unfold methodCall
    rw [show methodCallForm _ _ _ = true from rfl]
    refine wpAny_bind (wpAny_holding (getm_init fun tk₂ => ?_))
    refine wpAny_bind (wpAny_of_eq (a := _) (by unfold methodCallPos; rfl) ?_)
    refine Calls.callWith_builtin rfl (Calls.evalArgs_plain (Calls.spliced_cons ?_))
    refine ld hEk k1 v1 rfl (hEl.symm ▸ nsL) ?_
    refine Calls.spliced_cons (wpAny_BinOp (wpAny_BinOp (ld hEk k2 v2 rfl (hEl.symm ▸ nsL) (wpAny_Constant_str (add_str (fun t3 tk3 => ?_) (by decide +kernel))))))
    refine ld hEk k3 v3 rfl (hEl.symm ▸ nsL) (add_str (fun t4 tk4 => ?_) (by decide +kernel))
    refine Calls.spliced_nil ?_
    have cf₁ : ClsF m h₁ C f N mN := cf.keeps keep₁
    refine base_init (s := { s with heap := h₁, toks := tk4 }) cf₁ he₁ fun h₂ t' he₂ keep₂ => ?_
    have nsL₂ : h₂.Ns L mL := nsL.at' fun o q => keep₂ L o (Ne.symm neL) q
    have cls₂ : h₂.get? C = some _ := keep₂ C _ (neOf hC fun vs z => by cases z) (keep₁ _ _ hC)
    have ns₂ : h₂.Ns N mN := (cf.ns.keeps keep₁).at' fun o q => keep₂ N o (nsNe cf.ns) q
    -- self.kind = kind
    refine wpAny_execs_cons (plainObj_wpAny_Assign_Attribute ?_ rfl)
    refine ld hEk k2 v2 rfl (hEl.symm ▸ nsL₂) ?_
    refine ld hEk k1 v1 rfl (hEl.symm ▸ nsL₂) ?_
    refine first_attr PySem.F.store_Exception cls₂ ns₂ (cf.quiet "__setattr__" (by decide)) (cf.quiet "kind" (by decide)) lk_kind he₂ rfl (fun c z => by cases z) rfl fun h₃ tk₅ he₃ nsd keep₃ => ?_
    generalize hdx : h₂.objs.size = dx at *
    have fr2 : ∀ {b o}, h₂.get? b = some o → b ≠ dx := fun q z => by have := Heap.lt_size q; rw [z, hdx] at this; exact Nat.lt_irrefl _ this
    have nsL₃ : h₃.Ns L mL := nsL₂.at' fun o q => keep₃ L o (Ne.symm neL) q
    have cls₃ : h₃.get? C = some _ := keep₃ C _ (neOf hC fun vs z => by cases z) cls₂
    have ns₃ : h₃.Ns N mN := ns₂.at' fun o q => keep₃ N o (nsNe cf.ns) q
    -- self.text = text
    refine wpAny_execs_cons (plainObj_wpAny_Assign_Attribute ?_ rfl)
    refine ld hEk k3 v3 rfl (hEl.symm ▸ nsL₃) ?_
    refine ld hEk k1 v1 rfl (hEl.symm ▸ nsL₃) ?_
    refine store_attr PySem.F.store_Exception cls₃ ns₃ (cf.quiet "__setattr__" (by decide)) (cf.quiet "text" (by decide)) lk_text (fun z => neOf hC (fun vs z => by cases z) z.symm) ⟨_, he₃, rfl, (fun c z => by cases z), .inr ⟨dx, rfl, Ne.symm (fr2 he₂), nsd⟩⟩ (fun h₄ tk₆ I₄ keep₄ same₄ => ?_) (ns := [nm "kind"]) (Within.cons _ _ Within.nil) (by decide)
    obtain ⟨o₄, he₄, c₄, d₄, s₄, dict₄⟩ := same₄ _ he₃
    have dd₄ := dict₄ dx rfl
    have ho₄ : o₄ = excObj C t' (some dx) := by
      obtain ⟨a1, a2, a3, a4⟩ := o₄
      dsimp only at c₄ d₄ s₄ dd₄
      rw [c₄, d₄, s₄, dd₄]
    rw [ho₄] at he₄
    obtain ⟨o₅, he₅, _, _, hd₅⟩ := I₄
    rw [he₄] at he₅; cases he₅
    rcases hd₅ with ⟨z, _⟩ | ⟨d5, q5, _, ns5⟩
    · cases z
    · cases q5
      refine wpAny_execs_nil ?_
      exact h h₄ tk₆ dx t' _ (by
        cases q : s.heap.get? dx with
        | none => rfl
        | some o =>
          have q1 := keep₁ _ _ q
          by_cases z : dx = e
          · rw [z] at fr2; exact absurd rfl (fr2 he₂)
          · exact absurd rfl (fr2 (keep₂ dx o z q1))) (fun b o hb q => keep₄ b o hb (fun o₀ dx' z1 z2 => by rw [he₃] at z1; cases z1; cases z2; exact fr2 (keep₂ b o hb (keep₁ b o q))) (keep₃ b o hb (keep₂ b o hb (keep₁ b o q)))) he₄ ns5.ns (by rw [if_neg (by decide), if_pos rfl])
end
end Mine
end
section
open PySem PySem.W PyProof.Rows PySem.Calls PySem.Spec
set_option maxRecDepth 100000
namespace Mine

structure GX (G : Gl) (C f N : Addr) (mN : Str → Option Value) : Prop where
  ok : G.OK
  cls : ClsF G.mg G.hB C f N mN
  fly : G.Fly = FlyD G.hB C
theorem GX.fk {G : Gl} {C f N : Addr} {mN : Str → Option Value} (gx : GX G C f N mN) : FlyOK G := ⟨fun env outer k e L s A Q E h1 h2 h3 h4 => by
  rw [gx.fly] at h3 h4
  exact air_leave h1 h2 h3 h4⟩

section
variable {M : Model} {A : Around} {E : Value → Shared → Prop} {env : Env}
variable {nm' q : Str} {C N : Addr} {bs : List Value} {hdct : Bool} {sn : List Str} {sub : List Value} {ab : Bool} {col : Option Bool} {dd : Option Addr} {k0 k1 k2 k3 k5 : Option Value} {newId : String}
theorem raise_made {s : Shared} {x : Sem Value} {Q : Flow → Shared → Prop} (hh : A.handled = none)
    (h : wpAny M A x (fun v s₁ => ∃ e t dx, v = .ref e ∧ s₁.heap.get? C = some (excClassObj nm' q C N bs exBm hdct sn sub ab col dd k0 k1 k2 k3 k5 newId) ∧ s₁.heap.get? e = some (excObj C t (some dx)) ∧ E (.ref e) s₁) E s) :
    wpAny M A (raiseStmt env (some x) none) Q E s := by
  have hcB : (Value.ref C :: exBm).contains (.type "BaseException") = true := by rw [List.contains_cons, show exBm.contains (.type "BaseException") = true by decide +kernel, Bool.or_true]
  unfold raiseStmt
  refine wpAny_bind (wpAny_mono h (fun v s₁ h₁ => ?_) fun _ _ x => x)
  obtain ⟨e, t, dx, rfl, hC, he, hE⟩ := h₁
  obtain ⟨hp, g, d, tk, os⟩ := s₁
  repeat (first | with_reducible refine wpAny_loadPart_at he ?_ | with_reducible refine wpAny_loadPart_at hC ?_ | (with_reducible refine wpAny_isSubtype_exc hC ?_; rw [hcB]) | wp_step)
  exact wpAny_raiseNew_none hh hE
end

section
variable {G : Gl} {c : Act} {env : Env} {names : List Str} {n : Nat}
theorem sim_raise {C f N : Addr} {mN : Str → Option Value} (gx : GX G C f N mN) (co : c.OK G (n + 1)) (eo : EnvOK env) (hk : env.kindOf (nm "CasFail") = some .globalImplicit) : SSim G c env names raiseS kRz := by
  intro Oe O ρ s p Q E K
  obtain ⟨m₀, F₀⟩ := p.p.F
  have stB : G.hB.StaysIn s.heap := fun b o q => F₀.keep b o (co.stays b o q)
  have cf := gx.cls.keeps stB
  obtain ⟨nm', q, bs, sn, sub, ab, col, dd, k0, k1, k2, k3, k5, hC⟩ := cf.obj
  obtain ⟨fo, fd, hf, hfc, hfd, hbare, hcd⟩ := cf.fn
  obtain ⟨b1, b2⟩ := gx.ok.blt ("Exception", .type "Exception") (by decide)
  have gm : s.heap.Ns mainGlobals G.mg := gx.ok.g.keeps stB
  have gb : s.heap.Ns builtinsNs G.mb := gx.ok.b.keeps stB
  show wpAny _ _ (exec (.Raise (some (.Call (.Name (nm "CasFail") _) [.Constant (.str (strOf 14)) _ _, .Constant (.str txtS) _ _] [] _)) none _) env) Q E s
  rw [arm_exec_Raise]
  refine wpAny_bind (wpAny_standAt (raise_made (C := C) (N := N) (nm' := nm') (q := q) (bs := bs) (hdct := true) (sn := sn) (sub := sub) (ab := ab) (col := col) (dd := dd) (k0 := k0) (k1 := k1) (k2 := k2) (k3 := k3) (k5 := k5) (newId := "Exception.__new__") co.hh ?_))
  refine wpAny_bind (wpAny_mono (wpAny_Call_ofName (Name_function_global eo.kind hk (loadGlobal_global (by rw [eo.globals]; exact gm) cf.at_ ?_) rfl)) (fun v s₃ h₃ => wpAny_bind (wpAny_standAt (wpAny_pure h₃))) fun _ _ x => x)
  unfold callWith
  refine wpAny_bind (wpAny_holding ?_)
  show wpAny _ _ (evalArgs (.ref C) true [(false, eval (.Constant (.str (strOf 14)) 0 default) env), (false, eval (.Constant (.str txtS) 0 default) env)] []) _ _ _
  refine Calls.evalArgs_plain (Calls.spliced_cons (wpAny_Constant_str ?_))
  refine Calls.spliced_cons (wpAny_Constant_str (Calls.spliced_nil ?_))
  refine wpAny_bind (wpAny_standAt ?_)
  obtain ⟨hp, g, d, tk, os⟩ := s
  refine wpAny_bind (wpAny_keeperOf_exc hC ?_)
  refine wpAny_bind (wpAny_call_exc_init (hrest := (by show 2 ≤ sizeLine; decide)) PySem.F.excBase_Exception hC cf.ns cf.init hf hfc fun h' e hm => ?_)
  obtain ⟨t, he, ht0, _⟩ := hm.there
  have cf' := cf.keeps hm.keeps
  refine init_call (s := ⟨h', g, d, _, os⟩) cf' (gm.keeps hm.keeps) (gb.keeps hm.keeps) b1 b2 ((gx.ok.nolimit.keeps stB).keeps hm.keeps) ?_ he fun h₂ tk₂ dx t' m' hdn keep he₂ nsd hm' => ⟨rfl, wpAny_bind (wpAny_holding (wpAny_point (wpAny_pure ?_)))⟩
  · show c.A.depth + 1 < recursionLimit
    have := co.depth
    omega
  · have keepS : Heap.StaysIn hp h₂ := fun b o q => keep b o (fun z => by rw [z, hm.new] at q; cases q) (hm.keeps b o q)
    have hC₂ := keepS _ _ hC
    refine ⟨e, t', dx, rfl, hC₂, he₂, ?_⟩
    have noneB : ∀ a, hp.get? a = none → G.hB.get? a = none := fun a q => by
      cases w : G.hB.get? a with
      | none => rfl
      | some o => have := stB a o w; rw [q] at this; cases this
    refine K.rz 0 rfl e _ rfl ((Heap.UpToSlots.of_keeps F₀.keep).trans (Heap.UpToSlots.of_keeps keepS)) ?_
    rw [gx.fly]
    refine ⟨rfl, .inl ⟨fun b o q => keepS b o (stB b o q), noneB e hm.new, ?_, _, _, dx, m', _, he₂, rfl, rfl, rfl, nsd, hm', ?_, rfl⟩⟩
    · refine frames_in (co.frames.of_keeps fun b o q _ => ⟨o, keepS b o (F₀.keep b o q), rfl⟩) co.hke co.hf ?_ (F₀.ns.keeps keepS)
      cases w : G.hB.get? c.L with
      | none => rfl
      | some o => exact absurd (Nat.lt_of_lt_of_le (Heap.lt_size (co.stays _ _ w)) F₀.above) (Nat.lt_irrefl _)
    · have hpn : hp.get? dx = none := by
        cases q : hp.get? dx with
        | none => rfl
        | some o => have := hm.keeps _ _ q; rw [hdn] at this; cases this
      intro v hv hvf
      have there : ∃ o, hp.get? dx = some o := by
        rcases List.mem_cons.mp hv with rfl | hv
        · rw [co.hf] at hvf; cases hvf
          obtain ⟨o, _, _, q, _⟩ := F₀.ns; exact ⟨o, q⟩
        · obtain ⟨_, o, q, _⟩ := co.frames.mem (List.mem_filterMap.mpr ⟨v, hv, hvf⟩)
          exact ⟨o, F₀.keep _ _ q⟩
      obtain ⟨o, q⟩ := there
      rw [hpn] at q; cases q
end
end Mine
end
section
open PySem PySem.W PyProof.Rows PySem.Calls PySem.Spec
set_option maxRecDepth 100000
namespace Mine
section
variable {prog : Program} {w : World} {A : Around} {E : Value → Shared → Prop} {h : Heap} {g : Array GenState} {d : Drawn} {t : Nat} {os : OsState}
variable {nm' q : Str} {C N a dx : Addr} {bs : List Value} {hdct : Bool} {sn : List Str} {sub : List Value} {ab : Bool} {col : Option Bool} {dd : Option Addr} {k0 k1 k2 k3 k5 : Option Value} {newId : String}
  {mN mA : Str → Option Value} {v : Value} {o : Obj}

theorem kind_entry {tk : Tok} {Q : Fin → Shared → Prop} (hC : h.get? C = some (excClassObj nm' q C N bs exBm true sn sub ab col dd k0 k1 k2 k3 k5 newId)) (hn : h.Ns N mN) (hna : mN (nm "kind") = none)
    (hx : h.get? a = some o) (hc : o.cls = .ref C) (hnc : ∀ c, o.data ≠ .cls c) (hdx : o.dict = some dx) (hns : h.Ns dx mA) (hv : mA (nm "kind") = some v) (hq : Q (.done (.ret v)) ⟨h, g, d, t, os⟩) :
    wpAny (model prog w) A (Builtin.«object.__getattribute__» ⟨[.ref a, .str (nm "kind") tk], []⟩) Q E ⟨h, g, d, t, os⟩ := by
  unfold Builtin.«object.__getattribute__»
  repeat (first | (with_reducible refine wpAny_loadPart_at hx ?_; rw [hc]) | (with_reducible refine wpAny_typeLookup_exc hC hn PySem.F.excBase_Exception.mroIs lk_kind ?_; rw [hna]) | wp_step)
  split
  · rename_i c hcd
    exact absurd hcd (hnc c)
  unfold instanceDict
  repeat (first | (with_reducible refine wpAny_loadPart_at hx ?_; rw [hc]) | with_reducible refine wpAny_loadPart_at hC ?_ | wp_step)
  rw [hdx]
  repeat (first | (with_reducible refine wpAny_nsGet hns ?_; rw [hv]) | wp_step)
  exact hq

theorem kind_attr {expr : Bool} {Q : Value → Shared → Prop} (hC : h.get? C = some (excClassObj nm' q C N bs exBm true sn sub ab col dd k0 k1 k2 k3 k5 newId)) (hn : h.Ns N mN) (hq0 : ∀ x ∈ quiet, mN (nm x) = none)
    (hx : h.get? a = some o) (hc : o.cls = .ref C) (hnc : ∀ c, o.data ≠ .cls c) (hdx : o.dict = some dx) (hns : h.Ns dx mA) {x : Str} {u : Tok} (hv : mA (nm "kind") = some (.str x u)) (hq : Q (.str x u) ⟨h, g, d, t + 1, os⟩) :
    wpAny (model prog w) A (getAttr (.ref a) (nm "kind") expr) Q E ⟨h, g, d, t, os⟩ := by
  have FB := PySem.F.attrBase_Exception
  have f3 := FB.ga.bind (.ref a)
  have hx0 : (expr && onTheHeap (Value.builtin "BaseException.__getattribute__")) = false := by cases expr <;> rfl
  have hx2 : (Value.builtin "BaseException.__getattribute__" == Value.builtin "object.__getattribute__") = false := by decide +kernel
  have hx1 : (onTheHeap (Value.ref C) && Value.builtin "BaseException.__getattribute__" == Value.builtin "object.__getattribute__") = false := by rw [hx2]; rfl
  have n1 : mN "__getattribute__" = none := hq0 "__getattribute__" (by decide)
  have n2 : mN "__getattr__" = none := hq0 "__getattr__" (by decide)
  have base : ∀ {tk : Tok} {R : Result → Shared → Prop} {A : Around}, R (.ok (.ret (.str x u))) ⟨h, g, d, t + 1, os⟩ → codeAny (model prog w) A (.call (.builtin "BaseException.__getattribute__") ⟨[.ref a, .str (nm "kind") tk], []⟩) R ⟨h, g, d, t + 1, os⟩ := fun {tk R A} hr =>
    codeAny_call_builtin FB.ga.plain PySem.F.entry_bexc_ga (wpAny_check_ga_own FB hC OwnTailQ.base hx hc (kind_entry hC hn (hq0 "kind" (by decide)) hx hc hnc hdx hns hv hr))
  unfold getAttr getAttrBy
  repeat (any_goals (first | assumption | (with_reducible refine wpAny_loadPart_at hx ?_; rw [hc]) | (with_reducible refine wpAny_typeLookup_exc hC hn FB.mro FB.ga.lookup ?_; rw [n1]) | (with_reducible refine wpAny_typeLookup_exc hC hn FB.mro FB.noGetattr ?_; rw [n2]) | wp_step))
  refine base ?_
  repeat (any_goals (first | assumption | wp_step))
end
end Mine
end
section
open PySem PySem.W PyProof.Rows PySem.Calls PySem.Spec
namespace Mine
section
variable {G : Gl} {n : Nat}
theorem enterG {N : Str} {fa : Addr} {A : Around} {outer : List Env} {params : Arguments} {body : List Stmt} {scope : Scope} {ps locs : List Str} (ok : G.OK) (hd : ∃ o pm code doc, G.hB.get? fa = some o ∧ o.data = .func (docDef N params body scope pm code doc) ∧ G.hB.CodeRec code N)
    (hco : scope.isCoroutine = false) (hgen : scope.isGenerator = false) (hk : scope.kind = .function)
    (hps : ∀ vs : List Value, vs.length = ps.length → ∀ nm pm code doc, bindArgs (docDef nm params body scope pm code doc) ⟨vs, []⟩ = pure (ps.zip vs))
    (hkind : (ps.all fun y => scope.names.lookup y == some .local || scope.names.lookup y == some .cell) = true) (hnd : (ps ++ locs).Nodup)
    {O : Addr → Prop} {s : Shared} {vs : List Value} {ds : List D} (hA : A.frames = some outer) (hfr : s.heap.FunFrames G.hB outer) (hh : A.handled = none) (hdep : A.depth + (n + 1) < recursionLimit) (hun : A.units + 8 * (n + 1) + 100 < cLine) (stB : G.hB.StaysIn s.heap)
    (oB : ∀ a, O a → G.hB.get? a = none) (oe : ∀ a, O a → ∃ o, s.heap.get? a = some o) (r : RepAll O s.heap vs ds) (hlen : ds.length = ps.length) {Q : Value → Shared → Prop} {E : Value → Shared → Prop}
    (k : ∀ (c' : Act) (env : Env) (L : Addr) (cd : Value) (O' : Addr → Prop) (s₁ : Shared), env = envOfC N scope L fa cd → c' = { A := A.deeper env, outer := outer, h₀ := s.heap, L := L, fenv := env } → c'.OK G n → Frm c' env (ps ++ locs) →
      s₁ = { s with heap := s₁.heap, toks := s₁.toks } → SPre G c' env (ps ++ locs) O O' (ds ++ nos locs.length) s₁ →
      wpAny (model G.prog G.w) (A.deeper env) (execs body env) (fun fl s' => Q (match fl with | .ret v => v | _ => .none) s') (fun e s' => wpAny (model G.prog G.w) (A.deeper env) (leaving env e) (fun _ s'' => E e s'') (fun e' s'' => E e' s'') s') s₁) :
    wpAny (model G.prog G.w) A (call (.ref fa) vs) Q E s := by
  have hvl : vs.length = ps.length := r.length.trans hlen
  obtain ⟨o, pm, code, doc, ho, hdata, hcd⟩ := hd
  have hroom : A.depth < recursionLimit := Nat.lt_of_le_of_lt (Nat.le_add_right _ _) hdep
  refine wpAny_call ?_
  have hkinds : ∀ n, ∀ x ∈ ps.zip vs, scope.names.lookup x.1 = some .local ∨ (scope.names.lookup x.1 = some .cell ∧ ((cellsFrom n scope.names []).lookup x.1).isSome = true) :=
    fun n x hx => kX (List.all_eq_true.mp hkind x.1 (zip_fst x hx)) n
  refine codeAny_call_cells (fd := docDef N params body scope pm code doc) hroom (stB _ _ ho) hdata (ok.nolimit.keeps stB) (hcd.keeps stB) rfl (hps vs hvl _ _ _ _) rfl (hkinds _) (fun s₁ x => ?_) hco hgen hk
  have e1 : callEnvC (docDef N params body scope pm code doc) s.heap.objs.size fa = envOfC N scope s.heap.objs.size fa code := rfl
  rw [e1] at x ⊢
  generalize hL : s.heap.objs.size = L at *
  generalize hEnv : envOfC N scope L fa code = env at *
  have hEl : env.locals = L := by rw [← hEnv]; rfl
  have hEf : env.frame = some L := by rw [← hEnv]; rfl
  have hEk : env.scope.kind = .function := by rw [← hEnv]; exact hk
  have hEc : env.cells = cellsFrom (L + 1) scope.names [] := by rw [← hEnv]; rfl
  have hKo : ∀ y, env.kindOf y = scope.names.lookup y := fun y => by rw [← hEnv]; rfl
  obtain ⟨h₁, tk, rfl, keep⟩ := x.done
  have nsL : h₁.Ns L _ := hEl ▸ x.toInCall.ns
  have freshL : s.heap.get? L = none := Heap.get?_none_of_le (Nat.le_of_eq hL)
  have noneB : ∀ a, s.heap.get? a = none → G.hB.get? a = none := fun a q => by
    cases w : G.hB.get? a with
    | none => rfl
    | some o => have := stB a o w; rw [q] at this; cases this
  have freshC : ∀ y a, env.cells.lookup y = some a → s.heap.get? a = none := fun y a e => Heap.get?_none_of_le (by rw [hL]; exact Nat.le_of_lt (hEl ▸ x.above y a (mem_of_lookup e)))
  have nOf : ∀ a, s.heap.get? a = none → ¬ O a := fun a q z => by obtain ⟨o, e⟩ := oe a z; rw [q] at e; cases e
  have co' : Act.OK G { A := A.deeper env, outer := outer, h₀ := s.heap, L := L, fenv := env } n := by
    refine ⟨Around.frames_deeper hA, stB, hfr, hEf, hEk, hh, ?_, ?_⟩
    · show A.depth + 1 + n < recursionLimit
      omega
    · show A.units + 3 + 8 * n + 100 < cLine
      omega
  have noOwn : ∀ (i : Nat) (l : List D), (ds ++ nos locs.length)[i]? ≠ some (.own l) := fun i l e => by
    by_cases hi : i < ds.length
    · rw [List.getElem?_append_left hi] at e
      obtain ⟨v, _, rv⟩ := r.get e
      cases rv
    · rw [List.getElem?_append_right (by omega)] at e
      cases nos_get _ _ _ e
  refine k _ env L code (fun a => O a ∨ (s.heap.get? a = none ∧ ∃ o, h₁.get? a = some o)) _ hEnv.symm rfl co' ⟨⟨hEk, by rw [← hEnv]; rfl, by rw [← hEnv]; rfl⟩, hEl, hnd, apart_inj x.apart⟩ rfl ?_
  refine ⟨⟨⟨_, nsL, keep, Nat.le_of_eq hL⟩, fun a z => z.elim (oB a) fun z => noneB a z.1, fun a z => z.elim (fun z => let ⟨o, e⟩ := oe a z; ⟨o, keep a o e⟩) fun z => z.2, fun i y d hy hd => ?_⟩, fun a z => .inl z, fun a z nz => z.elim (fun z => absurd z nz) fun z => z.1, ⟨.inr ⟨freshL, ?_⟩, nOf L freshL⟩, fun y a e => ?_, fun i y l a _ hl _ => absurd hl (noOwn i l), fun i j y z l l' a _ _ hl _ _ _ => absurd hl (noOwn i l)⟩
  · by_cases hi : i < ds.length
    · rw [List.getElem?_append_left hi] at hd
      rw [List.getElem?_append_left (by omega)] at hy
      obtain ⟨v, hv, rv⟩ := r.get hd
      have rv' : Rep (fun a => O a ∨ (s.heap.get? a = none ∧ ∃ o, h₁.get? a = some o)) h₁ v d := rv.imp fun a o e nO _ => ⟨keep a o e, fun z => z.elim nO fun z => by rw [z.1] at e; cases e⟩
      refine VRep.of_rep rv' ?_
      have ndp : ps.Nodup := (List.nodup_append.mp hnd).1
      have hkb := List.all_eq_true.mp hkind y (List.mem_of_getElem? hy)
      rcases kX hkb (L + 1) with q | ⟨q, q'⟩
      · exact .inl ⟨(hKo y).trans q, _, hEl.symm ▸ nsL, bindL_at ps vs _ i y v ndp hy hv ((hKo y).trans q)⟩
      · obtain ⟨a, ha⟩ := Option.isSome_iff_exists.mp q'
        have ha' : env.cells.lookup y = some a := by rw [hEc]; exact ha
        have := x.cell y a ha'
        rw [bindC_at ps vs _ i y v ndp hy hv ((hKo y).trans q)] at this
        exact .inr (.inl ⟨(hKo y).trans q, a, ha', this⟩)
    · rw [List.getElem?_append_right (by omega)] at hd
      rw [nos_get _ _ _ hd]; trivial
  · obtain ⟨o, _, _, e, _⟩ := nsL; exact ⟨o, e⟩
  · obtain ⟨o, e', d'⟩ := x.cell y a e
    exact ⟨.inr ⟨freshC y a e, o, e'⟩, nOf a (freshC y a e), _, o, e', d'⟩

theorem enter {f : Fn} {params : Arguments} {body : List Stmt} {scope : Scope} {ps locs : List Str} (ok : G.OK) (hd : DefAt G f params body scope)
    (hco : scope.isCoroutine = false) (hgen : scope.isGenerator = false) (hk : scope.kind = .function)
    (hps : ∀ vs : List Value, vs.length = ps.length → ∀ nm pm code doc, bindArgs (docDef nm params body scope pm code doc) ⟨vs, []⟩ = pure (ps.zip vs))
    (hkind : (ps.all fun y => scope.names.lookup y == some .local || scope.names.lookup y == some .cell) = true) (hnd : (ps ++ locs).Nodup)
    {c : Act} {O : Addr → Prop} {s : Shared} {vs : List Value} {ds : List D} (co : c.OK G (n + 1)) (p : HP G c O s) (r : RepAll O s.heap vs ds) (hlen : ds.length = ps.length) {Q : Value → Shared → Prop} {E : Value → Shared → Prop}
    (k : ∀ (c' : Act) (env : Env) (L : Addr) (cd : Value) (O' : Addr → Prop) (s₁ : Shared), env = envOfC (Str.ofString (fnStr f)) scope L (G.fa f) cd → c' = { A := c.A.deeper env, outer := c.fenv :: c.outer, h₀ := s.heap, L := L, fenv := env } → c'.OK G n → Frm c' env (ps ++ locs) →
      s₁ = { s with heap := s₁.heap, toks := s₁.toks } → SPre G c' env (ps ++ locs) O O' (ds ++ nos locs.length) s₁ →
      wpAny (model G.prog G.w) (c.A.deeper env) (execs body env) (fun fl s' => Q (match fl with | .ret v => v | _ => .none) s') (fun e s' => wpAny (model G.prog G.w) (c.A.deeper env) (leaving env e) (fun _ s'' => E e s'') (fun e' s'' => E e' s'') s') s₁) :
    wpAny (model G.prog G.w) c.A (call (.ref (G.fa f)) vs) Q E s := by
  obtain ⟨m₀, F₀⟩ := p.F
  refine enterG ok hd hco hgen hk hps hkind hnd co.stack ?_ co.hh co.depth co.units (fun b o q => F₀.keep b o (co.stays b o q)) p.oB p.oe r hlen k
  exact frames_in (co.frames.of_keeps fun b o e _ => ⟨o, F₀.keep b o e, rfl⟩) co.hke co.hf (by
    cases w : G.hB.get? c.L with
    | none => rfl
    | some o => exact absurd (Nat.lt_of_lt_of_le (Heap.lt_size (co.stays _ _ w)) F₀.above) (Nat.lt_irrefl _)) F₀.ns
end
end Mine
end
section
open PySem PySem.W PyProof.Rows PySem.Calls PySem.Spec
set_option maxRecDepth 100000
namespace Mine

noncomputable abbrev qrS : Stmt := stAt 77
section
variable {G : Gl} {c : Act} {env : Env} {n : Nat}

noncomputable def UpBut (L : Addr) (h h' : Heap) : Prop := ∀ b o, b ≠ L → h.get? b = some o → (∀ vs, o.data ≠ .fields vs) → ∃ sl, h'.get? b = some { o with slots := sl }
theorem UpBut.of {L : Addr} {h h' : Heap} (u : h.UpToSlots h') : UpBut L h h' := fun b o _ e hn => u b o e hn
theorem UpBut.same {L : Addr} {h h' : Heap} (u : Heap.SameBut L h h') : UpBut L h h' := fun b o hb e _ => ⟨o.slots, (u.2 b hb).trans e⟩
theorem UpBut.trans {L : Addr} {h h' h'' : Heap} (u : UpBut L h h') (v : UpBut L h' h'') : UpBut L h h'' := fun b o hb e hn => by
  obtain ⟨sl, q⟩ := u b o hb e hn
  obtain ⟨sl', q'⟩ := v b _ hb q hn
  exact ⟨sl', q'⟩

theorem qr_caught {C f N e : Addr} {mN : Str → Option Value} (gx : GX G C f N mN) (co : c.OK G n) (eo : EnvOK env) (hfe : c.fenv = env) (hL : env.locals = c.L) (hsc : ∀ y, env.kindOf y = (fScope qrS).names.lookup y) (hLB : G.hB.get? c.L = none)
    {s : Shared} {m : Str → Option Value} {a : Addr} {vs : Array Value} {v0 : Value} {d0 : D} {k : Int} {tk : Tok} {O : Addr → Prop} {h₀ : Heap} (nsL : s.heap.Ns c.L m) (ho : m (nm "order") = some (.int k tk)) (h1 : m (nm "one") = some (.ref a)) (hl : s.heap.IsList a vs) (hv0 : vs[0]? = some v0)
    (r0 : Rep O h₀ v0 d0) (hu : h₀.UpToSlots s.heap) (hOL : O c.L) (hd0 : dep 12 d0 = true) {kk : Nat} (fl : G.Fly (c.fenv :: c.outer) kk e s.heap) {Q : Flow → Shared → Prop} {E : Value → Shared → Prop} {hs : List ExceptHandler} {p1 p2 : Pos} {body : List Stmt} {b₀ : Stmt}
    (hbody : b₀ :: body = (match nthS (fBody qrS) 1 with | .Try _ (.ExceptHandler _ _ b _ :: _) _ _ _ => b | _ => []))
    (kq : ∀ s' b, b = (decide (k = 3) && !eqD 12 d0 (.tup [.int 0, .int 1])) → s' = { s with heap := s'.heap, toks := s'.toks } → G.hB.StaysIn s'.heap → UpBut c.L s.heap s'.heap → Q (.ret (.bool b)) s') :
    wpAny (model G.prog G.w) c.A (noteFrame (.ref e) env) (fun _ s₂ => wpAny (model G.prog G.w) c.A (setFlight (.ref e) none) (fun _ s₃ => wpAny (model G.prog G.w) c.A (handleBy (.ref e) env (.ExceptHandler (some (.Name (nm "CasFail") p1)) (some (nm "caught")) (b₀ :: body) p2 :: hs)) Q E s₃) E s₂) E s := by
  rw [gx.fly] at fl
  obtain ⟨rfl, fl⟩ := fl
  have hk0 := eo.kind
  have kC : env.kindOf (nm "CasFail") = some .globalImplicit := (hsc _).trans rfl
  have kc : env.kindOf (nm "caught") = some .local := (hsc _).trans rfl
  have ko : env.kindOf (nm "order") = some .local := (hsc _).trans rfl
  have k1 : env.kindOf (nm "one") = some .local := (hsc _).trans rfl
  have hf : env.frame = some c.L := hfe ▸ co.hf
  have hfr : c.A.frames = some (env :: c.outer) := hfe ▸ co.stack
  rw [hfe] at fl
  have step : ∀ st, (st = none ∨ st = some .none) → Air G.hB (env :: c.outer) C e st s.heap → wpAny (model G.prog G.w) c.A (noteFrame (.ref e) env) (fun _ s₂ => wpAny (model G.prog G.w) c.A (setFlight (.ref e) none) (fun _ s₃ => wpAny (model G.prog G.w) c.A (handleBy (.ref e) env (.ExceptHandler (some (.Name (nm "CasFail") p1)) (some (nm "caught")) (b₀ :: body) p2 :: hs)) Q E s₃) E s₂) E s := by
    intro st hst air
    refine air_note hst hfr hf air fun h₁ air₁ u₁ => ?_
    refine air_land (s := { s with heap := h₁ }) air₁ fun h₂ air₂ u₂ => ?_
    have gm₂ : h₂.Ns mainGlobals G.mg := gx.ok.g.keeps air₂.1
    have cf₂ := gx.cls.keeps air₂.1
    obtain ⟨nm', q, bs, sn, sub, ab, col, dd, q0, q1, q2, q3, q5, hCB⟩ := gx.cls.obj
    have hC := air₂.1 _ _ hCB
    refine wpAny_handleBy_cons (codeAny_handlers_test (Name_function_global hk0 kC (loadGlobal_global (by rw [eo.globals]; exact gm₂) cf₂.at_ ?_) rfl)) (by intro q; cases q)
    obtain ⟨_, hen, _, oe, ws, dx, md, tkd, he, hcE, _⟩ := id air₂
    obtain ⟨hh, g, d, tt, os⟩ := s
    refine wpAny_excMatches_sub_self hC he hcE (by decide +kernel) (codeAny_handlers_suite_as ?_)
    refine air_land (s := ⟨h₂, g, d, tt, os⟩) air₂ fun h₃ air₃ u₃ => ?_
    have u03 : hh.UpToSlots h₃ := u₁.trans (u₂.trans u₃)
    have ns₃ : h₃.Ns env.locals m := hL.symm ▸ u03.ns nsL
    refine wpAny_storeName_local kc ns₃ (fun h₄ ns₄ hs₄ => ?_) (by rw [hk0]; rfl)
    rw [hL] at hs₄ ns₄
    have st₃ := air₃.1
    obtain ⟨_, _, _, oe, ws, dx, md, tkd, he, hcE, hdx, hdE, nsd, hmd, hfd, _⟩ := air₃
    have neL : ∀ {b o}, G.hB.get? b = some o → b ≠ c.L := fun q z => by rw [z, hLB] at q; cases q
    have st₄ : G.hB.StaysIn h₄ := fun b o q => (hs₄.2 b (neL q)).trans (st₃ b o q)
    have heL : e ≠ c.L := fun z => by
      obtain ⟨o, es, ep, q1, q2, _⟩ := ns₄
      obtain ⟨o', es', ep', q1', q2', _⟩ := hL ▸ ns₃
      rw [z, q1'] at he; cases he; rw [hdE] at q2'; cases q2'
    have hdL : dx ≠ c.L := fun z => hfd env (.head _) (by rw [hf, z])
    have he₄ := (hs₄.2 e heL).trans he
    have nsd₄ : h₄.Ns dx md := nsd.sameBut hs₄ hdL
    have hu' : ((c.A.mark (some (.ref e))).units + 64 < cLine) := by
      rw [Around.mark_units]; have := co.units; omega
    have u04 : UpBut c.L hh h₄ := (UpBut.of u03).trans (UpBut.same hs₄)
    have hl₄ : h₄.IsList a vs := by
      obtain ⟨o, q1, q2, k', q3⟩ := hl
      have haL : a ≠ c.L := fun z => by
        obtain ⟨o', es', ep', q1', q2', _⟩ := nsL
        rw [z, q1'] at q1; cases q1; rw [q3] at q2'; cases q2'
      obtain ⟨sl, q4⟩ := u04 a o haL q1 fun ws z => by rw [q3] at z; cases z
      exact ⟨_, q4, q2, k', q3⟩
    have ns₄' := hL.symm ▸ ns₄
    rw [hbody]
    refine wpAny_execs_cons (wpAny_Return_some (BoolOp_and (wpAny_Compare1 ?_ rfl)))
    refine Attribute_name (ld hk0 kc (if_pos rfl) rfl ns₄' (kind_attr (st₄ _ _ hCB) (gx.cls.ns.keeps st₄) gx.cls.quiet he₄ hcE (fun cd z => by rw [hdE] at z; cases z) hdx nsd₄ hmd ?_))
    refine wpAny_Constant_str ?_
    refine sp_cmpU (G := G) (c := { c with A := c.A.mark (some (.ref e)) }) (O := fun _ => False) hu' .Eq (Rep.str 14 _ (by decide)) (Rep.str 14 _ (by decide)) (by intro z; cases z) fun b hb => ?_
    cases hb
    refine wpAny_truthy_bool ?_
    rw [if_pos (by decide)]
    refine BoolOp_and (wpAny_Compare1 ?_ rfl)
    refine ld hk0 ko (by rw [if_neg (by decide)]; exact ho) rfl ns₄' (wpAny_Constant_int ?_)
    refine sp_cmpU (G := G) (c := { c with A := c.A.mark (some (.ref e)) }) (O := fun _ => False) hu' .Eq (Rep.int k _) (Rep.int 3 _) (by intro z; cases z) fun b hb => ?_
    have hb' : b = decide (k = 3) := by cases hb; rfl
    clear hb
    refine wpAny_truthy_bool ?_
    have fin : ∀ b' h₅ tk₅, b' = (decide (k = 3) && !eqD 12 d0 (.tup [.int 0, .int 1])) → Heap.StaysIn h₄ h₅ → wpAny (model G.prog G.w) c.A (do bindName env (nm "caught") .none; unbindBehindTheSuite env (nm "caught") p2) (fun _ s₅ => Q (.ret (.bool b')) s₅) E ⟨h₅, g, d, tk₅, os⟩ := fun b' h₅ tk₅ hb₅ k₅ => by
      refine wpAny_nameGoes kc (ns₄'.keeps k₅) (by rw [hk0]; rfl) fun h₆ m₆ _ hs₆ => ?_
      rw [hL] at hs₆
      exact kq _ b' hb₅ rfl (fun b o q => (hs₆.2 b (neL q)).trans (k₅ _ _ (st₄ b o q))) (u04.trans ((UpBut.of (Heap.UpToSlots.of_keeps k₅)).trans (UpBut.same hs₆)))
    cases b with
    | false => exact fin false h₄ _ (by rw [← hb']; rfl) fun _ _ z => z
    | true =>
      rw [if_pos rfl]
      refine BoolOp_one (wpAny_Compare1 (Subscript_ (ld hk0 k1 (by rw [if_neg (by decide)]; exact h1) rfl ns₄' (wpAny_Constant_int ?_))) rfl)
      refine tail_any hl₄.typeIs slot_list_getitem.lookup (wpAny_getItem_list hl₄ (by decide) (by decide) hv0 ?_) rfl
      refine wpAny_Tuple (args_cons (wpAny_Constant_int (args_cons (wpAny_Constant_int (args_nil ⟨by rw [sizeLine_eq]; simp, ?_⟩)) rfl)) rfl)
      have rT : ∀ t1 t2 : Tok, Rep (fun _ => False) (h₄.push { cls := .type "tuple", data := .seq [.int 0 t1, .int 1 t2].toArray }) (.ref h₄.objs.size) (.tup [.int 0, .int 1]) := fun t1 t2 =>
        rep_newT (O := fun _ => False) (fun _ z => z.elim) rfl rfl (.cons (.int 0 t1) (.cons (.int 1 t2) .nil))
      obtain ⟨as2, qq2⟩ := reads_here (rT _ _)
      have r0' : Rep O (hideAll h₀ [c.L]) v0 d0 := r0.imp fun b o q nO _ => ⟨hideAll_get _ q (fun z => nO (by rw [List.mem_singleton.mp z]; exact hOL)), nO⟩
      have ku : ∀ o : Obj, (hideAll h₀ [c.L]).UpToSlots (h₄.push o) := fun o b ob q hn => by
        have q' := of_hideAll _ q
        have hbL : b ≠ c.L := fun z => by rw [hideAll_none _ (by rw [z]; exact List.mem_singleton.mpr rfl)] at q; cases q
        obtain ⟨sl, q2⟩ := hu b ob q' hn
        obtain ⟨sl', q3⟩ := u04 b _ hbL q2 hn
        exact ⟨sl', Heap.get?_push_of_some _ q3⟩
      obtain ⟨as1, qq1⟩ := Rep.reads (ku _) r0'
      refine ne_dataH qq1 qq2 (shaped_of (by decide) hd0 r0) (shaped_of (n := 12) (by decide) (by decide) (rT 0 0)) hu' ?_
      rw [eqv_rep 12 r0 (rT 0 0) hd0 rfl]
      exact fin _ _ _ (by rw [← hb']; rfl) fun _ _ z => Heap.get?_push_of_some _ z
  rcases fl with fl | fl
  · exact step _ (.inl rfl) fl
  · exact step _ (.inr rfl) fl
end
end Mine
end
section
open PySem PySem.W PyProof.Rows PySem.Calls PySem.Spec
set_option maxRecDepth 100000
namespace Mine
section
variable {G : Gl} {n : Nat}
theorem qr_1 {g_law_told g_law_cauchy : List D → R D} (ok : G.OK) (h_law_told : Spec G n .law_told_ g_law_told) (h_law_cauchy : Spec G n .law_cauchy_ g_law_cauchy) (c : Act) (L a : Addr) (cd : Value) (co : c.OK G n) (fr : Frm c (envOfC (Str.ofString (fnStr .law_quotient_right_)) (fScope (stAt 77)) L a cd) ([nm "t", nm "one", nm "other"] ++ [nm "order", nm "told", nm "caught"])) : SSim G c (envOfC (Str.ofString (fnStr .law_quotient_right_)) (fScope (stAt 77)) L a cd) ([nm "t", nm "one", nm "other"] ++ [nm "order", nm "told", nm "caught"]) (nthS (fBody (stAt 77)) 0) (kAs 3 (cIf (tCmp .Eq (cIt (cV 2) (cK (.int 0))) (cTup (lCons (cK (.int 0)) (lCons (cK (.int 1)) lNil)))) (cK (.int 3)) (cK (.int 4)))) := (sim_kAs fr rfl (by first | exact .inl rfl | exact .inr ⟨rfl, rfl⟩) (sim_If (simT_Cmp co (sim_It (sim_V 2 rfl ⟨rfl, rfl, rfl⟩ rfl rfl) sim_K_int (fun _ _ => ⟨_, rfl⟩)) (sim_Tup (simL_cons sim_K_int (simL_cons sim_K_int simL_nil rfl) rfl)) rfl) sim_K_int sim_K_int) rfl)
noncomputable abbrev tryV : Stmt → Expr
  | .Try (.Assign _ v _ :: _) _ _ _ _ => v
  | _ => .Constant .none 0 default
theorem qr_2 {g_law_told g_law_cauchy : List D → R D} (ok : G.OK) (h_law_told : Spec G n .law_told_ g_law_told) (h_law_cauchy : Spec G n .law_cauchy_ g_law_cauchy) (c : Act) (L a : Addr) (cd : Value) (co : c.OK G n) (fr : Frm c (envOfC (Str.ofString (fnStr .law_quotient_right_)) (fScope (stAt 77)) L a cd) ([nm "t", nm "one", nm "other"] ++ [nm "order", nm "told", nm "caught"])) : ESim G c (envOfC (Str.ofString (fnStr .law_quotient_right_)) (fScope (stAt 77)) L a cd) ([nm "t", nm "one", nm "other"] ++ [nm "order", nm "told", nm "caught"]) (tryV (nthS (fBody (stAt 77)) 1)) (cB g_law_told (lCons (cV 0) (lCons (cV 3) lNil))) := (sim_C (fn := .law_told_) rfl h_law_told ⟨rfl, rfl, rfl⟩ ok co (simL_cons (sim_V 0 rfl ⟨rfl, rfl, rfl⟩ rfl rfl) (simL_cons (sim_V 3 rfl ⟨rfl, rfl, rfl⟩ rfl rfl) simL_nil rfl) rfl) rfl rfl rfl rfl)
theorem qr_3 {g_law_told g_law_cauchy : List D → R D} (ok : G.OK) (h_law_told : Spec G n .law_told_ g_law_told) (h_law_cauchy : Spec G n .law_cauchy_ g_law_cauchy) (c : Act) (L a : Addr) (cd : Value) (co : c.OK G n) (fr : Frm c (envOfC (Str.ofString (fnStr .law_quotient_right_)) (fScope (stAt 77)) L a cd) ([nm "t", nm "one", nm "other"] ++ [nm "order", nm "told", nm "caught"])) : SSim G c (envOfC (Str.ofString (fnStr .law_quotient_right_)) (fScope (stAt 77)) L a cd) ([nm "t", nm "one", nm "other"] ++ [nm "order", nm "told", nm "caught"]) (nthS (fBody (stAt 77)) 2) (kRet (cAnd (cCmp .Eq (cB bLen (lCons (cV 4) lNil)) (cV 3)) (cAnd (cOr (cCmp .Eq (cV 3) (cK (.int 4))) (cCmp .Eq (cIt (cV 1) (cK (.int 0))) (cTup (lCons (cK (.int 0)) (lCons (cK (.int 1)) lNil))))) (cCmp .Eq (cB g_law_cauchy (lCons (cV 4) (lCons (cV 2) lNil))) (cV 1))))) := (sim_kRet (sim_And (sim_Cmp co (sim_B (x := "len") b_len (.tail _ (.head _)) how_builtin ⟨rfl, rfl, rfl⟩ ok co (simL_cons (sim_V 4 rfl ⟨rfl, rfl, rfl⟩ rfl rfl) simL_nil rfl) rfl rfl rfl rfl rfl) (sim_V 3 rfl ⟨rfl, rfl, rfl⟩ rfl rfl) rfl) (sim_And (sim_Or (sim_Cmp co (sim_V 3 rfl ⟨rfl, rfl, rfl⟩ rfl rfl) sim_K_int rfl) (sim_BoolOne (sim_Cmp co (sim_It (sim_V 1 rfl ⟨rfl, rfl, rfl⟩ rfl rfl) sim_K_int (fun _ _ => ⟨_, rfl⟩)) (sim_Tup (simL_cons sim_K_int (simL_cons sim_K_int simL_nil rfl) rfl)) rfl))) (sim_BoolOne (sim_Cmp co (sim_C (fn := .law_cauchy_) rfl h_law_cauchy ⟨rfl, rfl, rfl⟩ ok co (simL_cons (sim_V 4 rfl ⟨rfl, rfl, rfl⟩ rfl rfl) (simL_cons (sim_V 2 rfl ⟨rfl, rfl, rfl⟩ rfl rfl) simL_nil rfl) rfl) rfl rfl rfl rfl) (sim_V 1 rfl ⟨rfl, rfl, rfl⟩ rfl rfl) rfl)))))
noncomputable abbrev qrPs : List Str := [nm "t", nm "one", nm "other"]
noncomputable abbrev qrLs : List Str := [nm "order", nm "told", nm "caught"]
theorem body_qrW {C f N : Addr} {mN : Str → Option Value} (gx : GX G C f N mN) {g_law_told g_law_cauchy : List D → R D} (h_law_told : Spec G n .law_told_ g_law_told) (h_law_cauchy : Spec G n .law_cauchy_ g_law_cauchy)
    (c : Act) (L a : Addr) (cd : Value) (env : Env) (henv : env = envOfC (Str.ofString (fnStr .law_quotient_right_)) (fScope (stAt 77)) L a cd) (hfe : c.fenv = env) (co : c.OK G n) (fr : Frm c env (qrPs ++ qrLs))
    {Oe O : Addr → Prop} {ρ : List D} {s : Shared} (p : SPre G c env (qrPs ++ qrLs) Oe O ρ s) {Q : Flow → Shared → Prop} {E : Value → Shared → Prop} (hb : ∃ b, b_law_quotient_right g_law_told g_law_cauchy ρ = .rt (.bool b))
    (k : ∀ b, b_law_quotient_right g_law_told g_law_cauchy ρ = .rt (.bool b) → ∀ s', s' = { s with heap := s'.heap, toks := s'.toks } → G.hB.StaysIn s'.heap → c.h₀.UpToSlots s'.heap → Q (.ret (.bool b)) s') :
    wpAny (model G.prog G.w) c.A (execs (fBody (stAt 77)) env) Q E s := by
  subst henv
  obtain ⟨b, hb⟩ := hb
  have k := k b hb
  have eo := fr.eo
  obtain ⟨m₀, F₀⟩ := p.p.F
  have hLB : G.hB.get? c.L = none := by
    cases w : G.hB.get? c.L with
    | none => rfl
    | some o => exact absurd (Nat.lt_of_lt_of_le (Heap.lt_size (co.stays _ _ w)) F₀.above) (Nat.lt_irrefl _)
  have hL0 : c.h₀.get? c.L = none := Heap.get?_none_of_le F₀.above
  unfold b_law_quotient_right bCons at hb
  refine wpAny_execs_cons (qr_1 gx.ok h_law_told h_law_cauchy c L a cd co fr Oe O ρ s p _ _ ⟨fun ρ₁ e₁ O₁ s₁ kp₁ p₁ => ?_, fun d e r s' _ _ _ => ?_, fun kk e x s' _ _ _ => ?_, fun e => ?_⟩)
  · rw [e₁] at hb
    dsimp only at hb
    obtain ⟨m₁, F₁⟩ := p₁.p.F
    refine wpAny_execs_cons (wpAny_Try_except ?_)
    refine wpAny_execs_cons (wpAny_Assign_Name (qr_2 gx.ok h_law_told h_law_cauchy c L a cd co fr O₁ ρ₁ s₁ p₁.p _ _ ⟨fun d ed v s₂ kx rv => ?_, fun kk ed e s₂ u fl => ?_, fun ed => ?_⟩) rfl)
    · refine st_store (p₁.ext kx) fr (i := 4) rfl (.inl rfl) (.inl rv) fun s₃ kp₃ p₃ => ?_
      refine wpAny_execs_nil (wpAny_execs_nil ?_)
      unfold kQ at hb
      rw [ed] at hb
      dsimp only at hb
      refine sim_bCons (qr_3 gx.ok h_law_told h_law_cauchy c L a cd co fr) sim_bNil Oe O₁ _ s₃ p₃ _ _ ⟨fun ρ' e O' s' kp _ => ?_, fun d' e r s' eq F rp => ?_, fun kk e x s' _ _ _ => ?_, fun e => ?_⟩
      · unfold bCons at e; rw [hb] at e; cases e
      · unfold bCons at e; rw [hb] at e; cases e
        cases rp
        obtain ⟨m', F'⟩ := F
        refine k s' (by rw [eq, kp₃.eq, kx.eq, kp₁.eq]) (fun b o q => F'.keep b o (co.stays b o q)) (Heap.UpToSlots.of_keeps F'.keep)
      · unfold bCons at e; rw [hb] at e; cases e
      · unfold bCons at e; rw [hb] at e; cases e
    · unfold kQ at hb
      rw [ed] at hb
      dsimp only at hb
      cases h3 : nth ρ₁ 3 with
      | int ki =>
        rw [h3] at hb
        cases h1 : nth ρ₁ 1 with
        | lst l =>
          rw [h1] at hb
          cases l with
          | nil => cases hb
          | cons d0 lr =>
            dsimp only at hb
            by_cases hd0 : dep 12 d0 = true
            · rw [if_pos hd0] at hb
              dsimp only at hb
              have v3 := p₁.p.V 3 _ _ rfl ((nth_get ρ₁ 3).resolve_left (by rw [h3]; intro z; cases z))
              have v1 := p₁.p.V 1 _ _ rfl ((nth_get ρ₁ 1).resolve_left (by rw [h1]; intro z; cases z))
              rw [h3] at v3
              rw [h1] at v1
              obtain ⟨x3, va3, r3⟩ := v3
              obtain ⟨x1, va1, r1⟩ := v1
              cases r3 with
              | int _ tk =>
              cases r1 with
              | @lst a1 vs1 n1 _ g1 o1 al =>
              have loc : ∀ {y v}, VarAt (envOfC (Str.ofString (fnStr .law_quotient_right_)) (fScope (stAt 77)) L a cd) s₁.heap y v → (fScope (stAt 77)).names.lookup y = some .local → m₁ y = some v := fun {y v} va hy => by
                rcases va with ⟨_, m', n', q⟩ | ⟨q, _⟩ | ⟨q, _⟩
                · rw [fr.hL] at n'; rw [ns_fun n' F₁.ns] at q; exact q
                · have : some NameKind.local = some NameKind.cell := hy.symm.trans q; cases this
                · have : some NameKind.local = some NameKind.free := hy.symm.trans q; cases this
              have m3 := loc va3 rfl
              have m1 := loc va1 rfl
              obtain ⟨v0, hv0, r0⟩ := al.get (i := 0) (d := d0) rfl
              rw [Array.getElem?_toList] at hv0
              obtain ⟨o1', ho1'⟩ : ∃ sl, s₂.heap.get? a1 = some { cls := .type "list", data := .seq vs1 n1, slots := sl } := u.up a1 _ g1 fun ws z => by cases z
              refine qr_caught gx co eo hfe fr.hL (fun y => rfl) hLB (s := s₂) (m := m₁) (u.up.ns F₁.ns) m3 m1 ⟨_, ho1', rfl, _, rfl⟩ hv0 r0 u.up p₁.oL.1 hd0 fl rfl fun s' b' hb' eq st up => ?_
              cases hb
              rw [← hb'] at k
              refine k s' (by rw [eq, u.eq, kp₁.eq]) st fun bb o q hn => ?_
              obtain ⟨sl, q2⟩ := u.up bb o (F₁.keep bb o q) hn
              obtain ⟨sl', q3⟩ := up bb _ (fun z => by rw [z, hL0] at q; cases q) q2 hn
              exact ⟨sl', q3⟩
            · rw [if_neg hd0] at hb; cases hb
        | _ => rw [h1] at hb; cases hb
      | _ => rw [h3] at hb; cases hb
    · unfold kQ at hb; rw [ed] at hb; cases hb
  · rw [e] at hb; unfold kAs rsOf at e; split at e <;> cases e
  · rw [e] at hb; cases hb
  · rw [e] at hb; cases hb

/-- the quotient's test, at n calls deep -/
noncomputable def SpecW (G : Gl) (n : Nat) (f : Fn) (g : List D → R D) : Prop :=
  ∀ c O s vs ds, c.OK G n → HP G c O s → RepAll O s.heap vs ds → ∀ (Q : Value → Shared → Prop) E, (∃ b, g ds = .ok (.bool b)) → (∀ b, g ds = .ok (.bool b) → ∀ s', s' = { s with heap := s'.heap, toks := s'.toks } → G.hB.StaysIn s'.heap → s.heap.UpToSlots s'.heap → Q (.bool b) s') →
    wpAny (model G.prog G.w) c.A (call (.ref (G.fa f)) vs) Q E s
theorem spec_qr {C f N : Addr} {mN : Str → Option Value} (gx : GX G C f N mN) (hd : DefAt G .law_quotient_right_ (fArgs (stAt 77)) (fBody (stAt 77)) (fScope (stAt 77))) {g_law_told g_law_cauchy : List D → R D} (h_law_told : Spec G n .law_told_ g_law_told) (h_law_cauchy : Spec G n .law_cauchy_ g_law_cauchy) :
    SpecW G (n + 1) .law_quotient_right_ (fnD 3 3 (b_law_quotient_right g_law_told g_law_cauchy)) := by
  intro c O s vs ds co hp r Q E ⟨b, hb⟩ k
  have hlen : ds.length = 3 := by
    unfold fnD at hb
    split at hb
    · rename_i q; exact Nat.eq_of_beq_eq_true q
    · cases hb
  have hbb : b_law_quotient_right g_law_told g_law_cauchy (ds ++ nos 3) = .rt (.bool b) := by
    unfold fnD at hb
    rw [if_pos (by rw [hlen]; rfl)] at hb
    unfold retR at hb
    split at hb <;> cases hb
    assumption
  refine enter (ps := qrPs) (locs := qrLs) gx.ok hd rfl rfl rfl (fun vs h => match vs, h with | [_, _, _], _ => fun _ _ _ _ => rfl) (by decide) (by decide) co hp r hlen fun c' env L cd O' s₁ henv hc' co' fr eq sp => ?_
  subst hc'
  refine body_qrW gx h_law_told h_law_cauchy _ L (G.fa .law_quotient_right_) cd env henv rfl co' fr sp ⟨b, hbb⟩ fun b' hb' s' eq' st up => ?_
  have hb'' := hbb.symm.trans hb'
  cases hb''
  exact k b hb s' (by rw [eq', eq]) st up
end
end Mine
end
section
open PySem PySem.W PyProof.Rows PySem.Calls PySem.Spec
set_option maxRecDepth 100000
namespace Mine
section
variable {prog : Program} {w : World} {A : Around} {E : Value → Shared → Prop} {s : Shared}
theorem mapSeq_set (its : Array Value) (n j : Nat) (v : Value) : ({ cls := .type "list", data := .seq its n } : Obj).mapSeq (·.setIfInBounds j v) = { cls := .type "list", data := .seq (its.setIfInBounds j v) (({ cls := .type "list", data := .seq its n } : Obj).mapSeq (·.setIfInBounds j v) |>.data |> fun | .seq _ k => k | _ => 0) } := rfl
theorem set_at {l : Addr} {its : Array Value} {n : Nat} {k : Int} {t : Tok} {v : Value} {Q : Unit → Shared → Prop} (ho : s.heap.get? l = some { cls := .type "list", data := .seq its n }) (h0 : 0 ≤ k) (hfit : k < 2 ^ 63) (hn : k < its.size)
    (hQ : ∀ h' k', h'.get? l = some { cls := .type "list", data := .seq (its.setIfInBounds k.toNat v) k' } → Heap.SameBut l s.heap h' → Q () { s with heap := h' }) : wpAny (model prog w) A (setItem (.ref l) (.int k t) v) Q E s := by
  have hT : s.TypeIs (.ref l) "list" := ⟨_, ho, rfl⟩
  unfold setItem
  try with_reducible refine wpAny_holding ?_
  first | refine wpAny_bind (wpAny_pure ?_) | skip
  refine wpAny_bind (wpAny_sequenceKey hT (by decide) ?_)
  refine wpAny_bind (wpAny_callSpecial?_slot (name := Str.ofString "__setitem__") hT slot_list_setitem (wpAny_call_entry slot_list_setitem hT entry_list_setitem ?_ (args_list_setitem _ _ _)))
  show wpAny _ _ (Builtin.List.listSubscript? (.int k t) >>= _) _ _ s
  refine wpAny_bind (wpAny_listSubscript_int (fitsIndex_of h0 hfit) ?_)
  clear hfit
  obtain ⟨j, rfl⟩ := Int.eq_ofNat_of_zero_le h0
  have hj : j < its.size := by omega
  have hx' : its[j]? = some its[j] := Array.getElem?_eq_getElem hj
  show wpAny _ _ ((seqItemAt l j >>= fun r => pure (r.map (j, ·))) >>= _) _ _ s
  refine wpAny_bind (wpAny_bind (wpAny_seqItemAt ho rfl (wpAny_pure ?_)))
  rw [hx']
  show wpAny _ _ (setSeqItemAt l j v >>= _) _ _ s
  have hfin := Heap.get?_update_self (Obj.mapSeq (·.setIfInBounds j v)) ho (by rw [mapSeq_set]; rfl)
  rw [mapSeq_set] at hfin
  refine wpAny_bind (wpAny_setSeqItemAt ho rfl ?_)
  first
    | exact wpAny_bind (wpAny_pure (wpAny_pure ⟨.none, rfl, wpAny_pure (hQ _ _ hfin (Heap.SameBut.update ..))⟩))
    | exact wpAny_pure ⟨.none, rfl, wpAny_pure (hQ _ _ hfin (Heap.SameBut.update ..))⟩
end

noncomputable abbrev ifTest : Stmt → Expr
  | .If t _ _ _ => t
  | _ => .Constant .none 0 default
noncomputable abbrev retE : Stmt → Expr
  | .Return (some e) _ => e
  | _ => .Constant .none 0 default
noncomputable def drT : CB := tCmp .Lt (cV 2) (cB bLen (lCons (cItO 0 (cK (.int 0))) lNil))
noncomputable def dr1 : C := cBin .Mod (cB bAbs (lCons (cIt (cItO 0 (cK (.int 0))) (cV 2)) lNil)) (cV 1)
noncomputable def dr2 : C := cBin .Mod (cBin .Add (cBin .Mult (cK (.int 4)) (cV 2)) (cK (.int 10))) (cV 1)
noncomputable def drR (xs : List D) (sp m : Int) : List D := [.own [.lst xs, .int (sp + 1)], .int m, .int sp]
noncomputable def drawD (xs : List D) (sp m : Int) : R D := (drT (drR xs sp m)).bind fun b => bif b then dr1 (drR xs sp m) else dr2 (drR xs sp m)
section
variable {G : Gl} {n : Nat}
theorem draw_call (ok : G.OK) (hd : DefAt G .law_draw_ (fArgs (stAt 70)) (fBody (stAt 70)) (fScope (stAt 70))) {c : Act} {O : Addr → Prop} {s : Shared} (co : c.OK G (n + 1)) (hp : HP G c O s) {a : Addr} {v0 : Value} {xs : List D} {sp m d : Int} {t1 t2 : Tok} {k : Nat} (hO : O a)
    (ho : s.heap.get? a = some { cls := .type "list", data := .seq #[v0, .int sp t1] k }) (r0 : Rep O s.heap v0 (.lst xs)) (hfa : ∀ v ∈ c.fenv :: c.outer, v.frame ≠ some a) (hdr : drawD xs sp m = .ok (.int d)) {Q : Value → Shared → Prop} {E : Value → Shared → Prop}
    (h : ∀ s' t t' k', s' = { s with heap := s'.heap, toks := s'.toks } → (∀ b o, b ≠ a → s.heap.get? b = some o → s'.heap.get? b = some o) → s'.heap.get? a = some { cls := .type "list", data := .seq #[v0, .int (sp + 1) t'] k' } → Q (.int d t) s') :
    wpAny (model G.prog G.w) c.A (call (.ref (G.fa .law_draw_)) [.ref a, .int m t2]) Q E s := by
  obtain ⟨o, pm, code, doc, hof, hdata, hcd⟩ := hd
  obtain ⟨m₀, F₀⟩ := hp.F
  have stB : G.hB.StaysIn s.heap := fun b o q => F₀.keep b o (co.stays b o q)
  have hroom : c.A.depth < recursionLimit := Nat.lt_of_le_of_lt (Nat.le_add_right _ _) co.depth
  have haB : G.hB.get? a = none := hp.oB a hO
  refine wpAny_call ?_
  refine codeAny_call_cells (fd := docDef (Str.ofString (fnStr .law_draw_)) (fArgs (stAt 70)) (fBody (stAt 70)) (fScope (stAt 70)) pm code doc) (binds := [(nm "pool", .ref a), (nm "many", .int m t2)]) hroom (stB _ _ hof) hdata (ok.nolimit.keeps stB) (hcd.keeps stB) rfl rfl rfl (fun x hx => .inl ?_) (fun s₁ x => ?_) rfl rfl rfl
  · simp only [List.mem_cons, List.not_mem_nil, or_false] at hx
    rcases hx with rfl | rfl <;> rfl
  have e1 : callEnvC (docDef (Str.ofString (fnStr .law_draw_)) (fArgs (stAt 70)) (fBody (stAt 70)) (fScope (stAt 70)) pm code doc) s.heap.objs.size (G.fa .law_draw_) = envOfC (Str.ofString (fnStr .law_draw_)) (fScope (stAt 70)) s.heap.objs.size (G.fa .law_draw_) code := rfl
  rw [e1] at x ⊢
  generalize hL : s.heap.objs.size = L at *
  have nsL0 := x.toInCall.ns
  obtain ⟨h₁, tk, rfl, keep₁⟩ := x.done
  have fresh : ∀ {b o}, s.heap.get? b = some o → b ≠ L := fun q z => by have := Heap.lt_size q; rw [z, hL] at this; exact Nat.lt_irrefl _ this
  have aL : a ≠ L := fresh ho
  have ndp : [nm "pool", nm "many"].Nodup := by decide
  have hkk : ∀ y, (envOfC (Str.ofString (fnStr .law_draw_)) (fScope (stAt 70)) L (G.fa .law_draw_) code).kindOf y = (fScope (stAt 70)).names.lookup y := fun _ => rfl
  have v1 := bindL_at (kindOf := (envOfC (Str.ofString (fnStr .law_draw_)) (fScope (stAt 70)) L (G.fa .law_draw_) code).kindOf) [nm "pool", nm "many"] [.ref a, .int m t2] (fun _ => none) 0 _ _ ndp rfl rfl rfl
  have v2 := bindL_at (kindOf := (envOfC (Str.ofString (fnStr .law_draw_)) (fScope (stAt 70)) L (G.fa .law_draw_) code).kindOf) [nm "pool", nm "many"] [.ref a, .int m t2] (fun _ => none) 1 _ _ ndp rfl rfl rfl
  change h₁.Ns L (bindL (envOfC (Str.ofString (fnStr .law_draw_)) (fScope (stAt 70)) L (G.fa .law_draw_) code).kindOf ([nm "pool", nm "many"].zip [.ref a, .int m t2]) fun _ => none) at nsL0
  generalize hmL : bindL (envOfC (Str.ofString (fnStr .law_draw_)) (fScope (stAt 70)) L (G.fa .law_draw_) code).kindOf ([nm "pool", nm "many"].zip [.ref a, .int m t2]) (fun _ => none) = mL at *
  clear x
  generalize hEnv : envOfC (Str.ofString (fnStr .law_draw_)) (fScope (stAt 70)) L (G.fa .law_draw_) code = env at *
  have eo : EnvOK env := by rw [← hEnv]; exact ⟨rfl, rfl, rfl⟩
  have hEl : env.locals = L := by rw [← hEnv]; rfl
  have hk0 := eo.kind
  have kp : env.kindOf (nm "pool") = some .local := (hkk _).trans rfl
  have km : env.kindOf (nm "many") = some .local := (hkk _).trans rfl
  have ks : env.kindOf (nm "spot") = some .local := (hkk _).trans rfl
  have hl₁ : h₁.IsList a #[v0, .int sp t1] := ⟨_, keep₁ _ _ ho, rfl, _, rfl⟩
  have nsE : h₁.Ns env.locals mL := hEl.symm ▸ nsL0
  refine wpAny_execs_cons (wpAny_Assign_Name ?_ rfl)
  refine Subscript_ (ld hk0 kp v1 rfl nsE (wpAny_Constant_int ?_))
  refine tail_any hl₁.typeIs slot_list_getitem.lookup (wpAny_getItem_list hl₁ (by decide) (by decide) (x := .int sp t1) rfl ?_) rfl
  refine wpAny_storeName_local ks nsE (fun h₂ ns₂ hs₂ => ?_) (by rw [hk0]; rfl)
  rw [hEl] at hs₂
  have ho₂ : h₂.get? a = some { cls := .type "list", data := .seq #[v0, .int sp t1] k } := (hs₂.2 a aL).trans (keep₁ _ _ ho)
  refine wpAny_execs_cons (wpAny_Assign_Subscript ?_ rfl)
  refine wpAny_BinOp (ld hk0 ks (if_pos rfl) rfl ns₂ (wpAny_Constant_int (add_int ?_)))
  refine ld hk0 kp (by rw [if_neg (by decide)]; exact v1) rfl ns₂ (wpAny_Constant_int ?_)
  refine set_at ho₂ (by decide) (by decide) (by show (1 : Int) < ((2 : Nat) : Int); decide) fun h₃ k' ho₃ hs₃ => ?_
  obtain ⟨tt, ho₃'⟩ : ∃ tt, h₃.get? a = some { cls := .type "list", data := .seq #[v0, .int (sp + 1) tt] k' } := ⟨_, ho₃⟩
  have keep₃ : ∀ b o, b ≠ a → s.heap.get? b = some o → h₃.get? b = some o := fun b o hb q => (hs₃.2 b hb).trans ((hs₂.2 b (fresh q)).trans (keep₁ b o q))
  have ns₃ : h₃.Ns env.locals _ := ns₂.sameBut hs₃ (by rw [hEl]; exact Ne.symm aL)
  have vp : VarAt env h₃ (nm "pool") (.ref a) := .inl ⟨kp, _, ns₃, by rw [if_neg (by decide)]; exact v1⟩
  have vm : VarAt env h₃ (nm "many") (.int m t2) := .inl ⟨km, _, ns₃, by rw [if_neg (by decide)]; exact v2⟩
  have vs : VarAt env h₃ (nm "spot") (.int sp t1) := .inl ⟨ks, _, ns₃, if_pos rfl⟩
  have co' : Act.OK G { A := c.A.deeper env, outer := c.fenv :: c.outer, h₀ := hideAll s.heap [a], L := L, fenv := env } n := by
    refine ⟨Around.frames_deeper co.stack, fun b o q => hideAll_get _ (stB b o q) (fun z => by rw [List.mem_singleton.mp z, haB] at q; cases q), ?_, by rw [← hEnv]; rfl, hk0, co.hh, ?_, ?_⟩
    · refine funFrames_hideAll (frames_in (co.frames.of_keeps fun b o e _ => ⟨o, F₀.keep b o e, rfl⟩) co.hke co.hf (by
        cases w : G.hB.get? c.L with
        | none => rfl
        | some o => exact absurd (Nat.lt_of_lt_of_le (Heap.lt_size (co.stays _ _ w)) F₀.above) (Nat.lt_irrefl _)) F₀.ns) fun v hv b hb => by rw [List.mem_singleton.mp hb]; exact hfa v hv
    · show c.A.depth + 1 + n < recursionLimit
      have := co.depth
      omega
    · show c.A.units + 3 + 8 * n + 100 < cLine
      have := co.units
      omega
  have r0' : Rep O h₃ v0 (.lst xs) := r0.imp fun b o q nO _ => ⟨keep₃ b o (fun z => nO (z ▸ hO)) q, nO⟩
  have keepH : (hideAll s.heap [a]).StaysIn h₃ := fun b o q => keep₃ b o (fun z => by rw [hideAll_none _ (by rw [z]; exact List.mem_singleton.mpr rfl)] at q; cases q) (of_hideAll _ q)
  have P₃ : ∀ tkk, Pre G { A := c.A.deeper env, outer := c.fenv :: c.outer, h₀ := hideAll s.heap [a], L := L, fenv := env } O env [nm "pool", nm "many", nm "spot"] (drR xs sp m) { s with heap := h₃, toks := tkk } := fun tkk => by
    refine ⟨⟨_, hEl ▸ ns₃, keepH, by rw [hideAll_size]; exact Nat.le_of_eq hL⟩, hp.oB, fun b z => ?_, fun i y e hy he => ?_⟩
    · by_cases q : b = a
      · rw [q]; exact ⟨_, ho₃'⟩
      · obtain ⟨o, e⟩ := hp.oe b z; exact ⟨o, keep₃ b o q e⟩
    · match i, hy, he with
      | 0, hy, he =>
        simp only [List.getElem?_cons_zero, Option.some.injEq, drR] at hy he
        subst hy; subst he
        exact ⟨a, _, _, vp, hO, ho₃', .cons r0' (.cons (.int _ _) .nil)⟩
      | 1, hy, he =>
        simp only [List.getElem?_cons_zero, List.getElem?_cons_succ, Option.some.injEq, drR] at hy he
        subst hy; subst he
        exact ⟨_, vm, .int _ _⟩
      | 2, hy, he =>
        simp only [List.getElem?_cons_zero, List.getElem?_cons_succ, Option.some.injEq, drR] at hy he
        subst hy; subst he
        exact ⟨_, vs, .int _ _⟩
      | i + 3, hy, he => simp [drR] at he
  have fin : ∀ tk5 v s', Ext { s with heap := h₃, toks := tk5 } s' → Rep O s'.heap v (.int d) → Q v s' := fun tk5 v s' kx r => by
    cases r
    exact h s' _ _ k' (by rw [kx.eq]) (fun b o hb q => kx.stays _ _ (keep₃ b o hb q)) (kx.stays _ _ ho₃')
  unfold drawD at hdr
  subst hEnv
  have sT : TSim G { A := c.A.deeper (envOfC (Str.ofString (fnStr .law_draw_)) (fScope (stAt 70)) L (G.fa .law_draw_) code), outer := c.fenv :: c.outer, h₀ := hideAll s.heap [a], L := L, fenv := envOfC (Str.ofString (fnStr .law_draw_)) (fScope (stAt 70)) L (G.fa .law_draw_) code } (envOfC (Str.ofString (fnStr .law_draw_)) (fScope (stAt 70)) L (G.fa .law_draw_) code) [nm "pool", nm "many", nm "spot"] (ifTest (nthS (fBody (stAt 70)) 2)) drT :=
    (simT_Cmp co' (sim_V 2 rfl ⟨rfl, rfl, rfl⟩ rfl rfl) (sim_B (x := "len") b_len (.tail _ (.head _)) how_builtin ⟨rfl, rfl, rfl⟩ ok co' (simL_cons (sim_ItO 0 rfl ⟨rfl, rfl, rfl⟩ rfl rfl sim_K_int (fun _ _ => ⟨_, rfl⟩)) simL_nil rfl) rfl rfl rfl rfl rfl) rfl)
  have s1 : ESim G { A := c.A.deeper (envOfC (Str.ofString (fnStr .law_draw_)) (fScope (stAt 70)) L (G.fa .law_draw_) code), outer := c.fenv :: c.outer, h₀ := hideAll s.heap [a], L := L, fenv := envOfC (Str.ofString (fnStr .law_draw_)) (fScope (stAt 70)) L (G.fa .law_draw_) code } (envOfC (Str.ofString (fnStr .law_draw_)) (fScope (stAt 70)) L (G.fa .law_draw_) code) [nm "pool", nm "many", nm "spot"] (retE (nthS (ifBody (nthS (fBody (stAt 70)) 2)) 0)) dr1 :=
    (sim_Bin (sim_B (x := "abs") b_abs (.head _) how_builtin ⟨rfl, rfl, rfl⟩ ok co' (simL_cons (sim_It (sim_ItO 0 rfl ⟨rfl, rfl, rfl⟩ rfl rfl sim_K_int (fun _ _ => ⟨_, rfl⟩)) (sim_V 2 rfl ⟨rfl, rfl, rfl⟩ rfl rfl) (fun _ _ => ⟨_, rfl⟩)) simL_nil rfl) rfl rfl rfl rfl rfl) (sim_V 1 rfl ⟨rfl, rfl, rfl⟩ rfl rfl))
  have s2 : ESim G { A := c.A.deeper (envOfC (Str.ofString (fnStr .law_draw_)) (fScope (stAt 70)) L (G.fa .law_draw_) code), outer := c.fenv :: c.outer, h₀ := hideAll s.heap [a], L := L, fenv := envOfC (Str.ofString (fnStr .law_draw_)) (fScope (stAt 70)) L (G.fa .law_draw_) code } (envOfC (Str.ofString (fnStr .law_draw_)) (fScope (stAt 70)) L (G.fa .law_draw_) code) [nm "pool", nm "many", nm "spot"] (retE (nthS (fBody (stAt 70)) 3)) dr2 :=
    (sim_Bin (sim_Bin (sim_Bin sim_K_int (sim_V 2 rfl ⟨rfl, rfl, rfl⟩ rfl rfl)) sim_K_int) (sim_V 1 rfl ⟨rfl, rfl, rfl⟩ rfl rfl))
  cases hT : drT (drR xs sp m) with
  | st => rw [hT] at hdr; cases hdr
  | rz k => rw [hT] at hdr; cases hdr
  | ok b =>
    rw [hT] at hdr
    change (bif b then dr1 (drR xs sp m) else dr2 (drR xs sp m)) = _ at hdr
    refine wpAny_execs_cons (wpAny_If (sT O _ _ (P₃ _) _ _ ⟨fun b' eb bb s₄ k₄ ebb => ?_, fun kk z => (by rw [hT] at z; cases z), fun z => (by rw [hT] at z; cases z)⟩))
    rw [hT] at eb
    have eb := R.ok.inj eb
    subst ebb
    subst eb
    have P₄ := (P₃ _).ext k₄
    cases b with
    | true =>
      refine wpAny_execs_cons (wpAny_Return_some (s1 O _ _ P₄ _ _ ⟨fun d' ed v s₅ k₅ r => ?_, fun kk z => (by rw [show dr1 (drR xs sp m) = .ok (.int d) from hdr] at z; cases z), fun z => (by rw [show dr1 (drR xs sp m) = .ok (.int d) from hdr] at z; cases z)⟩))
      rw [show dr1 (drR xs sp m) = .ok (.int d) from hdr] at ed; cases ed
      exact fin _ v s₅ (k₄.trans k₅) r
    | false =>
      refine wpAny_execs_nil (wpAny_execs_cons (wpAny_Return_some (s2 O _ _ P₄ _ _ ⟨fun d' ed v s₅ k₅ r => ?_, fun kk z => (by rw [show dr2 (drR xs sp m) = .ok (.int d) from hdr] at z; cases z), fun z => (by rw [show dr2 (drR xs sp m) = .ok (.int d) from hdr] at z; cases z)⟩)))
      rw [show dr2 (drR xs sp m) = .ok (.int d) from hdr] at ed; cases ed
      exact fin _ v s₅ (k₄.trans k₅) r
end
end Mine
end
section
open PySem PySem.W PyProof.Rows PySem.Calls PySem.Spec
set_option maxRecDepth 100000
namespace Mine
section
variable {G : Gl} {c : Act} {env : Env} {names : List Str} {n : Nat} {Oe O : Addr → Prop} {ρ : List D} {s s' : Shared}

theorem own_chg (p : SPre G c env names Oe O ρ s) {i : Nat} {x : Str} {l l' : List D} {a : Addr} {vs vs' : Array Value} {k k' : Nat} (hx : names[i]? = some x) (hl : nth ρ i = .own l) (va : VarAt env s.heap x (.ref a)) (ga : s.heap.get? a = some { cls := .type "list", data := .seq vs k })
    (eq : s' = { s with heap := s'.heap, toks := s'.toks }) (same : ∀ b o, b ≠ a → s.heap.get? b = some o → s'.heap.get? b = some o) (hg : s'.heap.get? a = some { cls := .type "list", data := .seq vs' k' }) (r' : RepAll O s.heap vs'.toList l') :
    Kp Oe O s s' O ∧ SPre G c env names Oe O (setN ρ i (.own l')) s' ∧ ∀ y w, VarAt env s.heap y w → VarAt env s'.heap y w := by
  have hρ := nth_own hl
  obtain ⟨a', vs₀, k₀, va', oa, ga', ra⟩ := p.p.V i x _ hx hρ
  have := VarAt.fun va va'; cases this
  have na := p.own i x l a hx hρ va
  obtain ⟨m, F⟩ := p.p.F
  have rep : ∀ {v : Value} {d : D}, Rep O s.heap v d → Rep O s'.heap v d := fun r => r.imp fun b o e nO _ => ⟨same b o (fun q => nO (q ▸ oa)) e, nO⟩
  have repA : ∀ {v : List Value} {d : List D}, RepAll O s.heap v d → RepAll O s'.heap v d := fun r => r.imp fun b o e nO _ => ⟨same b o (fun q => nO (q ▸ oa)) e, nO⟩
  have hLa : c.L ≠ a := fun q => by
    obtain ⟨o, es, ep, e, d, _⟩ := F.ns
    rw [q, ga] at e; cases e; cases d
  have cellNe : ∀ {b w}, s.heap.IsCell b w → b ≠ a := fun {b w} ⟨o, e1, e2⟩ q => by rw [q, ga] at e1; cases e1; cases e2
  have nsNe : ∀ {b m}, s.heap.Ns b m → b ≠ a := fun {b m} ⟨o, es, ep, e, d, _⟩ q => by rw [q, ga] at e; cases e; cases d
  have up : ∀ {y w}, VarAt env s.heap y w → VarAt env s'.heap y w := fun {y w} z => by
    rcases z with ⟨q, m', n', e⟩ | ⟨q, b, e, i⟩ | ⟨q, b, e, i⟩
    · have nb := nsNe n'
      exact .inl ⟨q, m', n'.at' fun o e => same _ o nb e, e⟩
    · have nb := cellNe i; obtain ⟨o, e1, e2⟩ := i; exact .inr (.inl ⟨q, b, e, o, same b _ nb e1, e2⟩)
    · have nb := cellNe i; obtain ⟨o, e1, e2⟩ := i; exact .inr (.inr ⟨q, b, e, o, same b _ nb e1, e2⟩)
  have ownat : ∀ {j : Nat} {y : Str} {l : List D}, names[j]? = some y → ρ[j]? = some (.own l) → ∃ a vs k, VarAt env s.heap y (.ref a) ∧ O a ∧ s.heap.get? a = some { cls := .type "list", data := .seq vs k } ∧ RepAll O s.heap vs.toList l := fun h1 h2 => p.p.V _ _ _ h1 h2
  have old : ∀ {j : Nat} {l₂ : List D}, (setN ρ i (.own l'))[j]? = some (.own l₂) → ∃ l'', ρ[j]? = some (.own l'') := fun {j l₂} h => by
    rcases setN_get ρ i _ j _ h with ⟨q, _⟩ | ⟨_, h⟩
    · exact ⟨l, q ▸ hρ⟩
    · exact ⟨l₂, h⟩
  refine ⟨⟨eq, fun b o h e => same b o (fun q => by
    subst q
    rcases h with h | h
    · exact h oa
    · exact na h) e, fun _ h => .inl h⟩, ⟨⟨⟨m, F.ns.at' fun o e => same _ o hLa e, fun b o e => same b o (fun q => ?_) (F.keep b o e), F.above⟩, p.p.oB, fun b h => ?_, fun j y e hj he => ?_⟩, p.sub, p.oh, p.oL, fun y b e => ?_, fun j y l₂ b hj hd vb => ?_, fun j j' y y' l₁ l₂ b hj hj' hd hd' vb vb' => ?_⟩, fun y w z => up z⟩
  · have := p.oh a oa na
    rw [← q, e] at this; cases this
  · by_cases q : b = a
    · subst q; exact ⟨_, hg⟩
    · obtain ⟨o, e⟩ := p.p.oe b h
      exact ⟨o, same b o q e⟩
  · rcases setN_get ρ i _ j e he with ⟨rfl, rfl⟩ | ⟨hji, he⟩
    · rw [hx] at hj; cases hj
      exact ⟨a, _, _, up va, oa, hg, repA r'⟩
    · have v0 := p.p.V j y e hj he
      cases e with
      | no => trivial
      | own l₂ =>
        obtain ⟨b, vs₂, k₂, vb, ob, gb, rb⟩ := v0
        refine ⟨b, vs₂, k₂, up vb, ob, same b _ (fun q => hji ?_) gb, repA rb⟩
        subst q
        exact p.inj j i y x l₂ l _ hj hx he hρ vb va
      | _ => obtain ⟨v, w, r⟩ := v0; exact ⟨v, up w, rep r⟩
  · obtain ⟨h1, h2, v, ic⟩ := p.oC y b e
    have nb := cellNe ic
    obtain ⟨o, e1, e2⟩ := ic
    exact ⟨h1, h2, v, o, same b _ nb e1, e2⟩
  · obtain ⟨l'', hd⟩ := old hd
    obtain ⟨b', _, _, vb', _⟩ := ownat hj hd
    have := VarAt.fun vb (up vb'); cases this
    exact p.own j y l'' _ hj hd vb'
  · obtain ⟨l₁', hd⟩ := old hd
    obtain ⟨l₂', hd'⟩ := old hd'
    obtain ⟨b', _, _, w, _⟩ := ownat hj hd
    obtain ⟨b'', _, _, w', _⟩ := ownat hj' hd'
    have e1 := VarAt.fun vb (up w); cases e1
    have e2 := VarAt.fun vb' (up w'); cases e2
    exact p.inj j j' y y' l₁' l₂' _ hj hj' hd hd' w w'

noncomputable abbrev LawDraw (G : Gl) : Prop := DefAt G .law_draw_ (fArgs (stAt 70)) (fBody (stAt 70)) (fScope (stAt 70))
/-- a draw, in the law's own frame -/
theorem draw_eval (ok : G.OK) (hD : LawDraw G) (co : c.OK G (n + 1)) (fr : Frm c env names) (hout : c.outer = []) {pl : Nat} {np p1 p2 pos : Pos} {kk : Nat} {m : Int} (hpl : names[pl]? = some (nm "pool")) (hi : env.kindOf (nm "_law_draw") = some .globalImplicit)
    (he : starEach [Expr.Name (nm "pool") p1, .Constant (.int m) kk p2] env = (false, eval (.Name (nm "pool") p1) env) :: starEach [.Constant (.int m) kk p2] env)
    (hc : eval (.Call (.Name (nm "_law_draw") np) [.Name (nm "pool") p1, .Constant (.int m) kk p2] [] pos) env = (do callWith pos (← eval (.Name (nm "_law_draw") np) env) [] (backTo pos (starEach [Expr.Name (nm "pool") p1, .Constant (.int m) kk p2] env)) (backToKw pos (keywordEach [] env))))
    (p : SPre G c env names Oe O ρ s) {xs : List D} {sp d : Int} (hown : nth ρ pl = .own [.lst xs, .int sp]) (hd : drawD xs sp m = .ok (.int d)) {Q : Value → Shared → Prop} {E : Value → Shared → Prop}
    (h : ∀ s' t, Kp Oe O s s' O → SPre G c env names Oe O (setN ρ pl (.own [.lst xs, .int (sp + 1)])) s' → (∀ y w, VarAt env s.heap y w → VarAt env s'.heap y w) → (∀ b o, s.heap.get? b = some o → ¬ O b → s'.heap.get? b = some o) → Q (.int d t) s') :
    wpAny (model G.prog G.w) c.A (eval (.Call (.Name (nm "_law_draw") np) [.Name (nm "pool") p1, .Constant (.int m) kk p2] [] pos) env) Q E s := by
  obtain ⟨e1, o, fd, e2, e3⟩ := ok.fn .law_draw_
  obtain ⟨m₀, F⟩ := p.p.F
  have eo := fr.eo
  have st : G.hB.StaysIn s.heap := fun b o q => F.keep b o (co.stays b o q)
  obtain ⟨a, vs, k, va, oa, ga, ra⟩ := p.p.V pl _ _ hpl (nth_own hown)
  obtain ⟨l⟩ := vs
  cases ra with
  | @cons v0 _ _ _ r0 ra => cases ra with
    | @cons v1 _ _ _ r1 ra =>
      cases ra
      cases r1 with
      | int _ t1 =>
      have hLa : c.L ≠ a := fun q => by
        obtain ⟨o, es, ep, e, d, _⟩ := F.ns
        rw [q, ga] at e; cases e; cases d
      refine Call_ (Name_function_global eo.kind hi (loadGlobal_global (by rw [eo.globals]; exact ok.g.keeps st) e1 ?_) rfl) hc
      refine callWith_def e3 ?_ he
      refine args_cons (load_at eo va rfl rfl (args_cons (wpAny_Constant_int (args_nil ⟨st _ _ e2, ?_⟩)) rfl)) he
      refine draw_call (s := { s with toks := s.toks + 1 }) (n := n) ok hD co ⟨⟨m₀, F⟩, p.p.oB, p.p.oe⟩ oa ga r0 (fun v hv => ?_) hd fun s' t t' k' eq keep hg => ?_
      · rw [hout] at hv
        rw [List.mem_singleton.mp hv, co.hf]
        exact fun z => hLa (Option.some.inj z)
      · obtain ⟨kp, p', up⟩ := own_chg p hpl hown va ga (s' := s') (by rw [eq]) keep hg (.cons r0 (.cons (.int (sp + 1) t') .nil))
        exact h s' t kp p' up fun b o q nO => keep b o (fun z => nO (z ▸ oa)) q

noncomputable def kDr (i : Nat) (m : Int) : B := fun ρ => match nth ρ 1 with
  | .own [.lst xs, .int sp] => match drawD xs sp m with
    | .ok (.int d) => .nx (setN (setN ρ 1 (.own [.lst xs, .int (sp + 1)])) i (.int d))
    | _ => .st
  | _ => .st
noncomputable def kDr2 (i : Nat) (m q : Int) : B := fun ρ => match nth ρ 1 with
  | .own [.lst xs, .int sp] => match drawD xs sp m with
    | .ok (.int d) => .nx (setN (setN ρ 1 (.own [.lst xs, .int (sp + 1)])) i (.int (q + d)))
    | _ => .st
  | _ => .st
/-- `x, y = (draw, [])` -/
noncomputable def kDrN (i j : Nat) (m : Int) : B := fun ρ => match nth ρ 1 with
  | .own [.lst xs, .int sp] => match drawD xs sp m with
    | .ok (.int d) => .nx (setN (setN (setN ρ 1 (.own [.lst xs, .int (sp + 1)])) j (.own [])) i (.int d))
    | _ => .st
  | _ => .st
/-- `pairs.append((kind, table[draw]))` -/
noncomputable def kDrA (i k : Nat) (m : Int) (tb : List D) : B := fun ρ => match nth ρ 1 with
  | .own [.lst xs, .int sp] => match drawD xs sp m with
    | .ok (.int d) => match nth ρ i, vget (nth ρ k), itD (.tup tb) (.int d) with
      | .own l, .ok a, .ok b => if shortL l = true then .nx (setN (setN ρ 1 (.own [.lst xs, .int (sp + 1)])) i (.own (l ++ [.tup [a, b]]))) else .st
      | _, _, _ => .st
    | _ => .st
  | _ => .st

theorem sim_kDr (ok : G.OK) (hD : LawDraw G) (co : c.OK G (n + 1)) (fr : Frm c env names) (hout : c.outer = []) {i : Nat} {x : Str} {xp np p1 p2 pos spos : Pos} {kk : Nat} {m : Int} (hpl : names[1]? = some (nm "pool")) (hi : env.kindOf (nm "_law_draw") = some .globalImplicit)
    (hx : names[i]? = some x) (hk : env.kindOf x = some .local ∨ (env.kindOf x = some .cell ∧ (env.cells.lookup x).isSome = true))
    (he : starEach [Expr.Name (nm "pool") p1, .Constant (.int m) kk p2] env = (false, eval (.Name (nm "pool") p1) env) :: starEach [.Constant (.int m) kk p2] env)
    (hc : eval (.Call (.Name (nm "_law_draw") np) [.Name (nm "pool") p1, .Constant (.int m) kk p2] [] pos) env = (do callWith pos (← eval (.Name (nm "_law_draw") np) env) [] (backTo pos (starEach [Expr.Name (nm "pool") p1, .Constant (.int m) kk p2] env)) (backToKw pos (keywordEach [] env))))
    (hs : swapsWith (.Call (.Name (nm "_law_draw") np) [.Name (nm "pool") p1, .Constant (.int m) kk p2] [] pos) (some (.Name x xp)) spos.line env = pure false) :
    SSim G c env names (.Assign [.Name x xp] (.Call (.Name (nm "_law_draw") np) [.Name (nm "pool") p1, .Constant (.int m) kk p2] [] pos) spos) (kDr i m) := by
  intro Oe O ρ s p Q E K
  unfold kDr at K
  split at K
  · rename_i xs sp hown
    split at K
    · rename_i d hd
      refine wpAny_Assign_Name (draw_eval ok hD co fr hout hpl hi he hc p hown hd fun s' t kp p' _ _ => ?_) hs
      exact st_store p' fr hx hk (.inl (.int d t)) fun s₂ kp₂ p₂ => K.nx _ rfl _ _ (kp.trans kp₂) p₂
    · exact absurd rfl K.ns
  · exact absurd rfl K.ns
theorem sim_kDr2 (ok : G.OK) (hD : LawDraw G) (co : c.OK G (n + 1)) (fr : Frm c env names) (hout : c.outer = []) {i : Nat} {x : Str} {xp np p0 p1 p2 pos pb spos : Pos} {kk k0 : Nat} {m q : Int} (hpl : names[1]? = some (nm "pool")) (hi : env.kindOf (nm "_law_draw") = some .globalImplicit)
    (hx : names[i]? = some x) (hk : env.kindOf x = some .local ∨ (env.kindOf x = some .cell ∧ (env.cells.lookup x).isSome = true))
    (he : starEach [Expr.Name (nm "pool") p1, .Constant (.int m) kk p2] env = (false, eval (.Name (nm "pool") p1) env) :: starEach [.Constant (.int m) kk p2] env)
    (hc : eval (.Call (.Name (nm "_law_draw") np) [.Name (nm "pool") p1, .Constant (.int m) kk p2] [] pos) env = (do callWith pos (← eval (.Name (nm "_law_draw") np) env) [] (backTo pos (starEach [Expr.Name (nm "pool") p1, .Constant (.int m) kk p2] env)) (backToKw pos (keywordEach [] env))))
    (hs : swapsWith (.BinOp (.Constant (.int q) k0 p0) .Add (.Call (.Name (nm "_law_draw") np) [.Name (nm "pool") p1, .Constant (.int m) kk p2] [] pos) pb) (some (.Name x xp)) spos.line env = pure false) :
    SSim G c env names (.Assign [.Name x xp] (.BinOp (.Constant (.int q) k0 p0) .Add (.Call (.Name (nm "_law_draw") np) [.Name (nm "pool") p1, .Constant (.int m) kk p2] [] pos) pb) spos) (kDr2 i m q) := by
  intro Oe O ρ s p Q E K
  unfold kDr2 at K
  split at K
  · rename_i xs sp hown
    split at K
    · rename_i d hd
      refine wpAny_Assign_Name (wpAny_BinOp (wpAny_Constant_int ?_)) hs
      refine draw_eval ok hD co fr hout hpl hi he hc (p.ext (.tok s (s.toks + 1))) hown hd fun s' t kp p' _ _ => add_int ?_
      exact st_store (p'.ext (.tok s' (s'.toks + 1))) fr hx hk (.inl (.int (q + d) s'.toks)) fun s₂ kp₂ p₂ => K.nx _ rfl _ _ ((Kp.ofExt (.tok s (s.toks + 1))).trans (kp.trans ((Kp.ofExt (.tok s' (s'.toks + 1))).trans kp₂))) p₂
    · exact absurd rfl K.ns
  · exact absurd rfl K.ns
end
end Mine
end
section
open PySem PySem.W PyProof.Rows PySem.Calls PySem.Spec
set_option maxRecDepth 100000
namespace Mine
theorem nth_setN_ne : ∀ (ρ : List D) (i j : Nat) (d : D), j ≠ i → nth (setN ρ i d) j = nth ρ j
  | [], _, _, _, _ => rfl
  | _ :: _, 0, 0, _, h => absurd rfl h
  | _ :: _, 0, _ + 1, _, _ => rfl
  | _ :: _, _ + 1, 0, _, _ => rfl
  | _ :: r, i + 1, j + 1, d, h => nth_setN_ne r i j d (fun q => h (by rw [q]))
section
variable {G : Gl} {c : Act} {env : Env} {names : List Str} {n : Nat} {Oe O : Addr → Prop} {ρ : List D} {s s' : Shared}

theorem sim_kDrN (ok : G.OK) (hD : LawDraw G) (co : c.OK G (n + 1)) (fr : Frm c env names) (hout : c.outer = []) {i j : Nat} {x y : Str} {px py tp np p1 p2 pos pl pv spos : Pos} {kk k k' : Nat} {m : Int} (hpl : names[1]? = some (nm "pool")) (hi : env.kindOf (nm "_law_draw") = some .globalImplicit)
    (hx : names[i]? = some x) (hy : names[j]? = some y) (hkx : env.kindOf x = some .local ∨ (env.kindOf x = some .cell ∧ (env.cells.lookup x).isSome = true)) (hky : env.kindOf y = some .local ∨ (env.kindOf y = some .cell ∧ (env.cells.lookup y).isSome = true))
    (he : starEach [Expr.Name (nm "pool") p1, .Constant (.int m) kk p2] env = (false, eval (.Name (nm "pool") p1) env) :: starEach [.Constant (.int m) kk p2] env)
    (hc : eval (.Call (.Name (nm "_law_draw") np) [.Name (nm "pool") p1, .Constant (.int m) kk p2] [] pos) env = (do callWith pos (← eval (.Name (nm "_law_draw") np) env) [] (backTo pos (starEach [Expr.Name (nm "pool") p1, .Constant (.int m) kk p2] env)) (backToKw pos (keywordEach [] env))))
    (hs : swapsWithSole [.Tuple [.Name x px, .Name y py] k tp] (.Tuple [.Call (.Name (nm "_law_draw") np) [.Name (nm "pool") p1, .Constant (.int m) kk p2] [] pos, .List [] pl] k' pv) spos.line env = pure false)
    (hw : swappedStores [.Tuple [.Name x px, .Name y py] k tp] (.Tuple [.Call (.Name (nm "_law_draw") np) [.Name (nm "pool") p1, .Constant (.int m) kk p2] [] pos, .List [] pl] k' pv) env = pure (some [x, y])) :
    SSim G c env names (.Assign [.Tuple [.Name x px, .Name y py] k tp] (.Tuple [.Call (.Name (nm "_law_draw") np) [.Name (nm "pool") p1, .Constant (.int m) kk p2] [] pos, .List [] pl] k' pv) spos) (kDrN i j m) := by
  intro Oe O ρ s p Q E K
  unfold kDrN at K
  split at K
  · rename_i xs sp hown
    split at K
    · rename_i d hd
      refine Assign_Tuple_swapped (wpAny_Tuple (args_cons (draw_eval ok hD co fr hout hpl hi he hc p hown hd fun s₁ t kp₁ p₁ _ _ => ?_) rfl)) hs hw
      refine args_cons (wpAny_List (spliced_nil ⟨by rw [sizeLine_eq]; simp, ?_⟩)) rfl
      obtain ⟨kp2, q2, nE2, there2, fresh2⟩ := own_new (n := n + 1) (s' := { s₁ with heap := s₁.heap.push { cls := .type "list", data := .seq ([] : List Value).toArray } }) co p₁ (k := 0) rfl
      refine args_nil ⟨by rw [sizeLine_eq]; simp, ?_⟩
      have none2 : s₁.heap.get? s₁.heap.objs.size = none := Heap.get?_none_of_le (Nat.le_refl _)
      have k12 : Ext s₁ { s₁ with heap := s₁.heap.push { cls := .type "list", data := .seq ([] : List Value).toArray } } := .push s₁ _
      generalize hA2 : s₁.heap.objs.size = a2 at *
      generalize hS2 : ({ s₁ with heap := s₁.heap.push { cls := .type "list", data := .seq ([] : List Value).toArray } } : Shared) = s₂ at *
      have k23 : Ext s₂ { s₂ with heap := s₂.heap.push { cls := .type "tuple", data := .seq [.int d t, .ref a2].toArray } } := .push _ _
      show wpAny _ _ (unpackItems (.ref s₂.heap.objs.size) 2 none) _ _ _
      refine unpackItems_tuple (s := { s₂ with heap := s₂.heap.push { cls := .type "tuple", data := .seq [.int d t, .ref a2].toArray } }) (items := ⟨[.int d t, .ref a2]⟩) co.hh ⟨_, Heap.get?_push_size _ rfl, rfl, _, rfl⟩ fun h' he => ?_
      have k24 := k23.trans (Ext.heap' (stays_of_but he))
      have q3 := q2.ext k24
      show wpAny _ _ (do holding [.int d t] (bindName env y (.ref a2)); holding [] (bindName env x (.int d t)); pure ()) _ _ _
      refine wpAny_bind (wpAny_holding (wpAny_bindName (st_store q3 fr hy hky (.inr ⟨[], a2, _, _, rfl, rfl, .inr rfl, nE2, k24.stays _ _ there2, .nil, fun j' y' l' _ h1 h2 => fresh_own p₁ (k12.trans k24) none2 j' y' l' h1 h2⟩) fun s₄ kp₄ p₄ => ?_)))
      refine wpAny_bind (wpAny_holding (wpAny_bindName (st_store p₄ fr hx hkx (.inl (.int d t)) fun s₅ kp₅ p₅ => ?_)))
      exact wpAny_pure (K.nx _ rfl _ _ (kp₁.trans (kp2.trans ((Kp.ofExt k24).trans (kp₄.trans kp₅)))) p₅)
    · exact absurd rfl K.ns
  · exact absurd rfl K.ns

theorem sim_kDrA (ok : G.OK) (hD : LawDraw G) (co : c.OK G (n + 1)) (fr : Frm c env names) (hout : c.outer = []) {i kx : Nat} {x y : Str} {px py np p1 p2 pos p3 p4 apos cpos spos : Pos} {kk k : Nat} {m : Int} {tup : Expr} {tb : List D} {ft : C} (hpl : names[1]? = some (nm "pool")) (hi : env.kindOf (nm "_law_draw") = some .globalImplicit)
    (hx : names[i]? = some x) (hi1 : i ≠ 1) (hy : names[kx]? = some y) (hdx : (x == ("__debug__" : Str)) = false) (hnx : (x == ("__classdict__" : Str)) = false) (hdy : (y == ("__debug__" : Str)) = false) (hny : (y == ("__classdict__" : Str)) = false)
    (htup : ESim G c env names tup ft) (hft : ∀ ρ, ft ρ = .ok (.tup tb)) (hsub : Subs (.Call (.Name (nm "_law_draw") np) [.Name (nm "pool") p1, .Constant (.int m) kk p2] [] pos))
    (he : starEach [Expr.Name (nm "pool") p1, .Constant (.int m) kk p2] env = (false, eval (.Name (nm "pool") p1) env) :: starEach [.Constant (.int m) kk p2] env)
    (hc : eval (.Call (.Name (nm "_law_draw") np) [.Name (nm "pool") p1, .Constant (.int m) kk p2] [] pos) env = (do callWith pos (← eval (.Name (nm "_law_draw") np) env) [] (backTo pos (starEach [Expr.Name (nm "pool") p1, .Constant (.int m) kk p2] env)) (backToKw pos (keywordEach [] env))))
    {elt : Expr} (helt : elt = .Tuple [.Name y py, .Subscript tup (.Call (.Name (nm "_law_draw") np) [.Name (nm "pool") p1, .Constant (.int m) kk p2] [] pos) p3] k p4)
    (hin : interactive env = false) (hs : swapsWith (.Call (.Attribute (.Name x px) "append" apos) [elt] [] cpos) none spos.line env = pure false) (hbase : attributeBase (.Name x px) "append" env (eval (.Name x px) env) = eval (.Name x px) env)
    (hfew : ((backTo cpos (starEach [elt] env)).all (fun x => !x.1) && (backToKw cpos (keywordEach [] env)).all (fun x => x.1.isSome) && decide (([elt] : List Expr).length + ([] : List Keyword).length + (if ([] : List Keyword).isEmpty then 0 else 1) < 30)) = true)
    (hline : (apos.endLine == cpos.line) = true) (htrees : backTo cpos (starEach [elt] env) = [(false, eval elt env)]) :
    SSim G c env names (.Expr (.Call (.Attribute (.Name x px) "append" apos) [elt] [] cpos) spos) (kDrA i kx m tb) := by
  intro Oe O ρ s p Q E K
  unfold kDrA at K
  split at K
  · rename_i xs sp hown
    split at K
    · rename_i d hd
      split at K
      · rename_i l a b hl ha hb
        split at K
        · rename_i hq
          have q' := Nat.le_of_ble_eq_true hq
          have hρ := nth_own hl
          obtain ⟨ad, vs, k0, va, oa, ga, ra⟩ := p.p.V i x _ hx hρ
          have hlen := ra.length
          rw [Array.length_toList] at hlen
          refine wpAny_Expr (wpAny_Call_append hbase hfew hline htrees (load_at fr.eo va hdx hnx ⟨ad, vs, rfl, ⟨_, k0, ga, rfl, rfl, rfl⟩, ?_⟩)) hin hs
          rw [helt]
          refine wpAny_Tuple (args_cons (sim_V kx hy fr.eo hdy hny O ρ s p.p _ _ ⟨fun a' ea v s₁ k₁ r₁ => ?_, fun z ez => (by rw [show cV kx ρ = .ok a from ha] at ez; cases ez), fun ez => (by rw [show cV kx ρ = .ok a from ha] at ez; cases ez)⟩) rfl)
          rw [show cV kx ρ = .ok a from ha] at ea; cases ea
          have p₁ := p.ext k₁
          refine args_cons (Subscript_ (htup O ρ s₁ p₁.p _ _ ⟨fun t' et tv s₂ k₂ rt => ?_, fun z ez => (by rw [hft] at ez; cases ez), fun ez => (by rw [hft] at ez; cases ez)⟩)) rfl
          rw [hft] at et; cases et
          have p₂ := p₁.ext k₂
          refine draw_eval ok hD co fr hout hpl hi he hc p₂ hown hd fun s₃ t kp₃ p₃ up₃ keep₃ => ?_
          refine sp_it (rep_kp kp₃ rt) (.int d t) hsub _ _ ⟨fun b' eb bv s₄ k₄ rb => ?_, fun z ez => (by rw [hb] at ez; cases ez), fun ez => (by rw [hb] at ez; cases ez)⟩
          rw [hb] at eb; cases eb
          refine args_nil ⟨by rw [sizeLine_eq]; simp, ?_⟩
          have p₄ := p₃.ext k₄
          have r1' : Rep O s₄.heap v a := (rep_kp kp₃ (r₁.stays k₂.stays)).stays k₄.stays
          have k45 : Ext s₄ { s₄ with heap := s₄.heap.push { cls := .type "tuple", data := .seq [v, bv].toArray } } := .push _ _
          have rT : Rep O (s₄.heap.push { cls := .type "tuple", data := .seq [v, bv].toArray }) (.ref s₄.heap.objs.size) (.tup [a, b]) := rep_newT p₄.p.oe rfl rfl (.cons r1' (.cons rb .nil))
          have p₅ := p₄.ext k45
          have hl₅ : nth (setN ρ 1 (.own [.lst xs, .int (sp + 1)])) i = .own l := (nth_setN_ne ρ 1 i _ hi1).trans hl
          obtain ⟨ad', vs', k', va', oa', ga', ra'⟩ := p₅.p.V i x _ hx (nth_own hl₅)
          have va₅ := ((up₃ _ _ ((va.stays k₁.stays).stays k₂.stays)).stays k₄.stays).stays k45.stays
          have := VarAt.fun va₅ va'; cases this
          have hlen' := ra'.length
          rw [Array.length_toList] at hlen'
          refine append_at (s := { s₄ with heap := s₄.heap.push { cls := .type "tuple", data := .seq [v, bv].toArray } }) ga' (fun h' hs' hg => ?_) (by rw [hlen', sizeLine_eq]; omega)
          obtain ⟨kp₆, p₆⟩ := app_pre p₅ fr hx hl₅ va' ga' rT hs' hg
          exact K.nx _ rfl _ _ ((Kp.ofExt (k₁.trans k₂)).trans (kp₃.trans ((Kp.ofExt (k₄.trans k45)).trans kp₆))) p₆
        · exact absurd rfl K.ns
      · exact absurd rfl K.ns
    · exact absurd rfl K.ns
  · exact absurd rfl K.ns
end
end Mine
end
section
open PySem PySem.W PyProof.Rows PySem.Calls PySem.Spec
set_option maxRecDepth 100000
namespace Mine
noncomputable def kRetQ (g : List D → R D) (f : CL) : B := fun ρ => rsL (f ρ) fun ds => match g ds with
  | .ok (.bool b) => .rt (.bool b)
  | _ => .st
section
variable {G : Gl} {c : Act} {env : Env} {names : List Str} {n : Nat}
theorem sim_kRetQ {g : List D → R D} {f : CL} {np pos rpos : Pos} {e : Expr} {rest : List Expr} (hv : SpecW G n .law_quotient_right_ g) (eo : EnvOK env) (ok : G.OK) (co : c.OK G n) (hs : LSim G c env names (e :: rest) f) (hi : env.kindOf (nm "_law_quotient_right") = some .globalImplicit) (hd : (nm "_law_quotient_right" == ("__debug__" : Str)) = false)
    (he : starEach (e :: rest) env = (false, eval e env) :: starEach rest env)
    (hc : eval (.Call (.Name (nm "_law_quotient_right") np) (e :: rest) [] pos) env = (do callWith pos (← eval (.Name (nm "_law_quotient_right") np) env) [] (backTo pos (starEach (e :: rest) env)) (backToKw pos (keywordEach [] env)))) (hB : c.h₀ = G.hB) :
    SSim G c env names (.Return (some (.Call (.Name (nm "_law_quotient_right") np) (e :: rest) [] pos)) rpos) (kRetQ g f) := by
  intro Oe O ρ s p Q E K
  obtain ⟨e1, o, fd, e2, e3⟩ := ok.fn .law_quotient_right_
  obtain ⟨m, F⟩ := p.p.F
  have st : G.hB.StaysIn s.heap := fun b o q => F.keep b o (co.stays b o q)
  refine wpAny_Return_some (Call_ (Name_function_global eo.kind hi (loadGlobal_global (by rw [eo.globals]; exact ok.g.keeps st) e1 ?_) hd) hc)
  refine callWith_def e3 ?_ he
  refine sp_stmt rsL_g p (hs O ρ s pos p.p) K fun ds vs s₁ _ k r p₁ K' => ⟨k.stays _ _ (st _ _ e2), ?_⟩
  cases hg : g ds with
  | ok d =>
    cases d with
    | bool b =>
      rw [hg] at K'
      obtain ⟨m₁, F₁⟩ := p₁.p.F
      refine hv c O s₁ vs ds co p₁.p.hp r _ _ ⟨b, hg⟩ fun b' hb' s' eq sb up => ?_
      rw [hg] at hb'; cases hb'
      exact K'.rt _ rfl (.bool b) s' eq ⟨m₁, up.ns F₁.ns, fun x o q => sb x o (hB ▸ q), F₁.above⟩ (.bool b)
    | _ => rw [hg] at K'; exact absurd rfl K'.ns
  | rz k => rw [hg] at K'; exact absurd rfl K'.ns
  | st => rw [hg] at K'; exact absurd rfl K'.ns
end
noncomputable def b_law (g_law_part g_t_sym g_law_told g_law_deeds_right g_t_quotient g_law_quotient_right : List D → R D) : B := (bCons (kOwnL 1 (lCons (cComp (cB bInt (lCons (cV 0) lNil)) [] (rOne (sS (cSlTo (cV 0) (cK (.int 8)))))) (lCons (cK (.int 0)) lNil))) (bCons (kDrN 2 3 2) (bCons (kFo 4 (sR (lCons (cK (.int 2)) lNil)) (bCons (kDr 5 7) (bCons (kDrA 3 5 4 [.int 1, .int (-1), .int 2, .int (-2)]) bNil))) (bCons (kDr2 6 2 2) (bCons (kFz 3) (bCons (kUn 7 8 (cComp (cB g_law_part (lCons (cV 0) (lCons (cV 1) (lCons (cB g_t_sym (lCons (cK (.str 15)) lNil)) lNil)))) [] (rTwo (sS (cV 3))))) (bCons (kMu 9 10 (cB g_law_told (lCons (cV 7) (lCons (cK (.int 4)) lNil))) (cB g_law_told (lCons (cV 8) (lCons (cK (.int 4)) lNil)))) (bCons (kIf (tOr (tCmp .NotEq (cB bLen (lCons (cV 9) lNil)) (cK (.int 4))) (tOr (tCmp .NotEq (cB bLen (lCons (cV 10) lNil)) (cK (.int 4))) tF)) (bCons (kRet (cK (.bool false))) bNil) bNil) (bCons (kIf (tCmp .Eq (cV 2) (cK (.int 0))) (bCons (kRet (cB g_law_deeds_right (lCons (cV 7) (lCons (cV 8) (lCons (cV 9) (lCons (cV 10) (lCons (cV 6) lNil))))))) bNil) bNil) (bCons (kRetQ g_law_quotient_right (lCons (cB g_t_quotient (lCons (cV 7) (lCons (cV 8) lNil))) (lCons (cV 9) (lCons (cV 10) lNil)))) bNil))))))))))
section
variable {G : Gl} {n : Nat}
theorem body_law {g_law_part g_t_sym g_law_told g_law_deeds_right g_t_quotient g_law_quotient_right : List D → R D} (ok : G.OK) (h_law_part : Spec G n .law_part_ g_law_part) (h_t_sym : Spec G n .t_sym_ g_t_sym) (h_law_told : Spec G n .law_told_ g_law_told) (h_law_deeds_right : Spec G n .law_deeds_right_ g_law_deeds_right) (h_t_quotient : Spec G n .t_quotient_ g_t_quotient) (hq : SpecW G n .law_quotient_right_ g_law_quotient_right) (hD : LawDraw G) (c : Act) (L a : Addr) (cd : Value) (co1 : c.OK G (n + 1)) (co : c.OK G n) (hout : c.outer = []) (hcB : c.h₀ = G.hB) (fr : Frm c (envOfC (nm "law") (fScope (stAt 78)) L a cd) ([nm "script"] ++ [nm "pool", nm "form", nm "pairs", nm "turn", nm "kind", nm "many", nm "a", nm "b", nm "one", nm "other"])) :
    BSim G c (envOfC (nm "law") (fScope (stAt 78)) L a cd) ([nm "script"] ++ [nm "pool", nm "form", nm "pairs", nm "turn", nm "kind", nm "many", nm "a", nm "b", nm "one", nm "other"]) (fBody (stAt 78)) (b_law g_law_part g_t_sym g_law_told g_law_deeds_right g_t_quotient g_law_quotient_right) :=
  (sim_bCons (sim_kOwnL co fr rfl (by first | exact .inl rfl | exact .inr ⟨rfl, rfl⟩) (simL_cons (sim_cComp co (xs := [nm "cell"]) (ys := []) (fun _ => rfl) rfl (by decide) (by decide) rfl (by decide) trivial (cs_one (simI_S co (sim_SlTo (sim_V 0 rfl ⟨rfl, rfl, rfl⟩ rfl rfl) sim_K_int (fun _ _ => ⟨_, rfl⟩))) rfl rfl) (fun C => (sim_B (x := "int") b_int (.tail _ (.tail _ (.tail _ (.tail _ (.tail _ (.tail _ (.tail _ (.head _)))))))) how_type ⟨rfl, rfl, rfl⟩ ok co (simL_cons (sim_V 0 rfl ⟨rfl, rfl, rfl⟩ rfl rfl) simL_nil rfl) rfl rfl rfl rfl rfl))) (simL_cons sim_K_int simL_nil rfl) rfl))
    (sim_bCons (sim_kDrN ok hD co1 fr hout rfl rfl rfl rfl (by first | exact .inl rfl | exact .inr ⟨rfl, rfl⟩) (by first | exact .inl rfl | exact .inr ⟨rfl, rfl⟩) rfl rfl rfl rfl)
    (sim_bCons (sim_kFo co fr rfl (by first | exact .inl rfl | exact .inr ⟨rfl, rfl⟩) (simI_R ⟨rfl, rfl, rfl⟩ ok co (fun _ _ => rfl) (simL_cons sim_K_int simL_nil rfl) rfl rfl rfl rfl rfl) (sim_bCons (sim_kDr ok hD co1 fr hout rfl rfl rfl (by first | exact .inl rfl | exact .inr ⟨rfl, rfl⟩) rfl rfl rfl) (sim_bCons (sim_kDrA (ft := (cTup (lCons (cK (.int 1)) (lCons (cK (.int (-1))) (lCons (cK (.int 2)) (lCons (cK (.int (-2))) lNil)))))) ok hD co1 fr hout rfl rfl rfl (by decide) rfl rfl rfl rfl rfl (sim_Tup (simL_cons sim_K_int (simL_cons sim_neg (simL_cons sim_K_int (simL_cons sim_neg simL_nil rfl) rfl) rfl) rfl)) (fun _ => rfl) (fun _ _ => ⟨_, rfl⟩) rfl rfl rfl rfl rfl rfl rfl rfl rfl) sim_bNil)) (fun _ => rfl))
    (sim_bCons (sim_kDr2 ok hD co1 fr hout rfl rfl rfl (by first | exact .inl rfl | exact .inr ⟨rfl, rfl⟩) rfl rfl rfl)
    (sim_kFz fr rfl (sim_bCons (sim_kUn co fr rfl rfl (by first | exact .inl rfl | exact .inr ⟨rfl, rfl⟩) (by first | exact .inl rfl | exact .inr ⟨rfl, rfl⟩) (sim_cComp co (xs := [nm "kind", nm "c"]) (ys := []) (fun _ => rfl) rfl (by decide) (by decide) rfl (by decide) trivial (cs_two co (simI_S co (sim_V 3 rfl ⟨rfl, rfl, rfl⟩ rfl rfl)) rfl rfl rfl (by decide)) (fun C => (sim_C (fn := .law_part_) rfl h_law_part ⟨rfl, rfl, rfl⟩ ok co (simL_cons (sim_V 0 rfl ⟨rfl, rfl, rfl⟩ rfl rfl) (simL_cons (sim_V 1 rfl ⟨rfl, rfl, rfl⟩ rfl rfl) (simL_cons (sim_C (fn := .t_sym_) rfl h_t_sym ⟨rfl, rfl, rfl⟩ ok co (simL_cons (sim_K_str 15 (by decide) rfl) simL_nil rfl) rfl rfl rfl rfl) simL_nil rfl) rfl) rfl) rfl rfl rfl rfl))) rfl rfl)
    (sim_bCons (sim_kMu co fr rfl rfl (by first | exact .inl rfl | exact .inr ⟨rfl, rfl⟩) (by first | exact .inl rfl | exact .inr ⟨rfl, rfl⟩) (simL_cons (sim_C (fn := .law_told_) rfl h_law_told ⟨rfl, rfl, rfl⟩ ok co (simL_cons (sim_V 7 rfl ⟨rfl, rfl, rfl⟩ rfl rfl) (simL_cons sim_K_int simL_nil rfl) rfl) rfl rfl rfl rfl) (simL_cons (sim_C (fn := .law_told_) rfl h_law_told ⟨rfl, rfl, rfl⟩ ok co (simL_cons (sim_V 8 rfl ⟨rfl, rfl, rfl⟩ rfl rfl) (simL_cons sim_K_int simL_nil rfl) rfl) rfl rfl rfl rfl) simL_nil rfl) rfl) rfl rfl)
    (sim_bCons (sim_kIf (simT_Or (simT_Cmp co (sim_B (x := "len") b_len (.tail _ (.head _)) how_builtin ⟨rfl, rfl, rfl⟩ ok co (simL_cons (sim_V 9 rfl ⟨rfl, rfl, rfl⟩ rfl rfl) simL_nil rfl) rfl rfl rfl rfl rfl) sim_K_int rfl) (simT_Or (simT_Cmp co (sim_B (x := "len") b_len (.tail _ (.head _)) how_builtin ⟨rfl, rfl, rfl⟩ ok co (simL_cons (sim_V 10 rfl ⟨rfl, rfl, rfl⟩ rfl rfl) simL_nil rfl) rfl rfl rfl rfl rfl) sim_K_int rfl) simT_OrNil)) (sim_bCons (sim_kRet sim_K_bool)
    sim_bNil) sim_bNil)
    (sim_bCons (sim_kIf (simT_Cmp co (sim_V 2 rfl ⟨rfl, rfl, rfl⟩ rfl rfl) sim_K_int rfl) (sim_bCons (sim_kRet (sim_C (fn := .law_deeds_right_) rfl h_law_deeds_right ⟨rfl, rfl, rfl⟩ ok co (simL_cons (sim_V 7 rfl ⟨rfl, rfl, rfl⟩ rfl rfl) (simL_cons (sim_V 8 rfl ⟨rfl, rfl, rfl⟩ rfl rfl) (simL_cons (sim_V 9 rfl ⟨rfl, rfl, rfl⟩ rfl rfl) (simL_cons (sim_V 10 rfl ⟨rfl, rfl, rfl⟩ rfl rfl) (simL_cons (sim_V 6 rfl ⟨rfl, rfl, rfl⟩ rfl rfl) simL_nil rfl) rfl) rfl) rfl) rfl) rfl rfl rfl rfl))
    sim_bNil) sim_bNil)
    (sim_bCons (sim_kRetQ hq ⟨rfl, rfl, rfl⟩ ok co (simL_cons (sim_C (fn := .t_quotient_) rfl h_t_quotient ⟨rfl, rfl, rfl⟩ ok co (simL_cons (sim_V 7 rfl ⟨rfl, rfl, rfl⟩ rfl rfl) (simL_cons (sim_V 8 rfl ⟨rfl, rfl, rfl⟩ rfl rfl) simL_nil rfl) rfl) rfl rfl rfl rfl) (simL_cons (sim_V 9 rfl ⟨rfl, rfl, rfl⟩ rfl rfl) (simL_cons (sim_V 10 rfl ⟨rfl, rfl, rfl⟩ rfl rfl) simL_nil rfl) rfl) rfl) rfl rfl rfl rfl hcB)
    sim_bNil))))))))))
end
end Mine
end
section
open PySem
namespace Mine
noncomputable def nrat (a b : Int) : R D := if (b != 0 && (small a && small b)) = true then
    let g : Int := bif decide (0 < b) then (Nat.gcd a.natAbs b.natAbs : Nat) else -((Nat.gcd a.natAbs b.natAbs : Nat) : Int)
    .ok (.tup [.int (a.fdiv g), .int (b.fdiv g)])
  else .st
noncomputable def g_rat : List D → R D
  | [.int a, .int b] => nrat a b
  | _ => .st

noncomputable def gT : CB := tCmp .NotEq (cV 1) (cK (.int 0))
noncomputable def gB : B := bCons (kMu 0 1 (cV 1) (cBin .Mod (cV 0) (cV 1))) bNil
theorem gcd_loop : ∀ (k fuel x y : Nat), y < 2 ^ k → 2 * k + 1 ≤ fuel → whD gT gB fuel [.int (x : Nat), .int (y : Nat)] = .nx [.int (Nat.gcd x y : Nat), .int 0] := by
  have tt : ∀ x y : Nat, gT [.int (x : Nat), .int (y : Nat)] = .ok (!decide (((y : Nat) : Int) = 0)) := fun _ _ => rfl
  have st : ∀ x y : Nat, y ≠ 0 → gB [.int (x : Nat), .int (y : Nat)] = .nx [.int (y : Nat), .int ((x % y : Nat) : Nat)] := fun x y hy => by
    have h1 : (((y : Nat) : Int) != 0) = true := by simpa using hy
    have h2 : ((x : Nat) : Int).fmod (y : Nat) = ((x % y : Nat) : Int) := by rw [Int.fmod_eq_emod_of_nonneg _ (by omega)]; rfl
    show bCons (kMu 0 1 (cV 1) (cBin .Mod (cV 0) (cV 1))) bNil _ = _
    simp only [bCons, kMu, lCons, lNil, cV, cBin, vget, nth, R.bind, opD, h1, if_true, rsL, h2, setN, bNil]
  have zero : ∀ (fuel x : Nat), whD gT gB (fuel + 1) [.int (x : Nat), .int 0] = .nx [.int (Nat.gcd x 0 : Nat), .int 0] := fun fuel x => by
    rw [whD, show gT [.int (x : Nat), .int 0] = .ok false from rfl, Nat.gcd_zero_right]
  have more : ∀ (fuel x y : Nat), y ≠ 0 → whD gT gB (fuel + 1) [.int (x : Nat), .int (y : Nat)] = whD gT gB fuel [.int (y : Nat), .int ((x % y : Nat) : Nat)] := fun fuel x y hy => by
    rw [whD, tt, show decide (((y : Nat) : Int) = 0) = false by simpa using hy, show (!false) = true from rfl]
    simp only [st x y hy]
  intro k
  induction k with
  | zero =>
    intro fuel x y hy hf
    obtain ⟨f, rfl⟩ : ∃ f, fuel = f + 1 := ⟨fuel - 1, by omega⟩
    have : y = 0 := by simpa using hy
    subst this
    exact zero f x
  | succ k ih =>
    intro fuel x y hy hf
    obtain ⟨f, rfl⟩ : ∃ f, fuel = f + 1 := ⟨fuel - 1, by omega⟩
    by_cases h0 : y = 0
    · subst h0; exact zero f x
    · rw [more f x y h0, Nat.gcd_comm x y, Nat.gcd_rec y x, Nat.gcd_comm (x % y) y]
      obtain ⟨f, rfl⟩ : ∃ f', f = f' + 1 := ⟨f - 1, by omega⟩
      by_cases h1 : x % y = 0
      · rw [h1]; exact zero f y
      · rw [more f y (x % y) h1, Nat.gcd_comm y (x % y), Nat.gcd_rec (x % y) y, Nat.gcd_comm (y % (x % y)) (x % y)]
        refine ih f _ _ ?_ (by omega)
        have hr : x % y < y := Nat.mod_lt _ (by omega)
        have : y % (x % y) < 2 ^ k := by
          rw [Nat.pow_succ] at hy
          have hlt : y % (x % y) < x % y := Nat.mod_lt _ (by omega)
          by_cases hle : 2 * (x % y) ≤ y
          · omega
          · have : y % (x % y) = y - x % y := by
              rw [Nat.mod_eq_sub_mod (by omega), Nat.mod_eq_of_lt (by omega)]
            omega
        exact this
theorem absI_nat (a : Int) : absI a = (a.natAbs : Int) := by cases a <;> rfl
theorem small_lt {a : Int} (h : small a = true) : a.natAbs < 2 ^ 64 := Nat.le_of_ble_eq_true h
theorem f_gcd_eq {a b : Int} (hb : small b = true) : f_gcd [.int a, .int b] = .ok (.int (Nat.gcd a.natAbs b.natAbs : Nat)) := by
  have hl := gcd_loop 64 200 a.natAbs b.natAbs (small_lt hb) (by decide)
  show retR (b_gcd [.int a, .int b]) = _
  have e1 : kMu 0 1 (cB bAbs (lCons (cV 0) lNil)) (cB bAbs (lCons (cV 1) lNil)) [.int a, .int b] = .nx [.int (a.natAbs : Nat), .int (b.natAbs : Nat)] := by
    show RS.nx [.int (absI a), .int (absI b)] = _
    rw [absI_nat, absI_nat]
  unfold b_gcd
  rw [bCons, e1]
  show retR (bCons (kWh 200 gT gB) _ _) = _
  rw [bCons, kWh, hl]
  rfl
theorem f_rat_eq (ds : List D) : g_rat ds = .st ∨ g_rat ds = f_rat ds := by
  unfold g_rat
  split
  · rename_i a b
    unfold nrat
    split
    · rename_i h
      simp only [Bool.and_eq_true, bne_iff_ne, ne_eq] at h
      obtain ⟨h0, ha, hb⟩ := h
      right
      have hg := f_gcd_eq (a := a) hb
      have hpos : 0 < Nat.gcd a.natAbs b.natAbs := Nat.gcd_pos_of_pos_right _ (by omega)
      have hle : Nat.gcd a.natAbs b.natAbs < 2 ^ 64 := Nat.lt_of_le_of_lt (Nat.gcd_le_right _ (by omega)) (small_lt hb)
      have hlog : Nat.log2 (Nat.gcd a.natAbs b.natAbs) < 64 := (Nat.log2_lt (by omega)).mpr hle
      generalize hG : Nat.gcd a.natAbs b.natAbs = g at *
      show _ = retR (b_rat f_gcd [.int a, .int b, .no])
      have e1 : (kIf (tCmp .Eq (cV 1) (cK (.int 0))) (bCons kNo bNil) bNil) [.int a, .int b, .no] = .nx [.int a, .int b, .no] := by
        show (bif decide (b = 0) then _ else _) = _
        rw [decide_eq_false h0]; rfl
      have e2 : (kAs 2 (cIf (tCmp .Gt (cV 1) (cK (.int 0))) (cB f_gcd (lCons (cV 0) (lCons (cV 1) lNil))) (cBin .Sub (cK (.int 0)) (cB f_gcd (lCons (cV 0) (lCons (cV 1) lNil)))))) [.int a, .int b, .no] = .nx [.int a, .int b, .int (bif decide (0 < b) then ((g : Nat) : Int) else -((g : Nat) : Int))] := by
        show rsOf (bif decide (0 < b) then f_gcd [.int a, .int b] else (f_gcd [.int a, .int b]).bind fun y => opD .Sub (.int 0) y) _ = _
        rw [hg]
        cases decide (0 < b) with
        | true => rfl
        | false => show RS.nx [.int a, .int b, .int (0 - ((g : Nat) : Int))] = _; rw [Int.zero_sub]; rfl
      unfold b_rat
      rw [bCons, e1]
      dsimp only
      rw [bCons, e2]
      dsimp only
      have hgn : ∀ z : Int, z = (bif decide (0 < b) then ((g : Nat) : Int) else -((g : Nat) : Int)) → (z != 0 && Nat.blt z.natAbs.log2 9000) = true := fun z hz => by
        have hz' : z.natAbs = g := by rw [hz]; cases decide (0 < b) <;> simp
        have : z ≠ 0 := fun q => by rw [q] at hz'; simp at hz'; omega
        simp only [Bool.and_eq_true, bne_iff_ne, ne_eq, this, not_false_eq_true, true_and, hz']
        exact Nat.ble_eq.mpr (by omega)
      have hz := hgn _ rfl
      generalize (bif decide (0 < b) then ((g : Nat) : Int) else -((g : Nat) : Int)) = z at *
      show _ = retR (bCons (kRet (cTup (lCons (cBin .FloorDiv (cV 0) (cV 2)) (lCons (cBin .FloorDiv (cV 1) (cV 2)) lNil)))) bNil _)
      simp only [bCons, kRet, cTup, lCons, lNil, cBin, cV, vget, nth, R.bind, opD, hz, if_true, mkT]
      rfl
    · exact .inl rfl
  · exact .inl rfl

noncomputable def nr4 (f : Int → Int → Int → Int → R D) : List D → R D
  | [.tup [.int a, .int b], .tup [.int c, .int d]] => if (small a && (small b && (small c && small d))) = true then f a b c d else .st
  | _ => .st
noncomputable def g_radd : List D → R D := nr4 fun a b c d => nrat (a * d + c * b) (b * d)
noncomputable def g_rsub : List D → R D := nr4 fun a b c d => nrat (a * d - c * b) (b * d)
noncomputable def g_rmul : List D → R D := nr4 fun a b c d => nrat (a * c) (b * d)
noncomputable def g_rdiv : List D → R D := nr4 fun a b c d => nrat (a * d) (b * c)
theorem nr4_eq {f : Int → Int → Int → Int → R D} {g : List D → R D} (h : ∀ a b c d, small a = true → small b = true → small c = true → small d = true → f a b c d = g [.tup [.int a, .int b], .tup [.int c, .int d]]) (ds : List D) : nr4 f ds = .st ∨ nr4 f ds = g ds := by
  unfold nr4
  split
  · split
    · rename_i q
      simp only [Bool.and_eq_true] at q
      exact .inr (h _ _ _ _ q.1 q.2.1 q.2.2.1 q.2.2.2)
    · exact .inl rfl
  · exact .inl rfl
noncomputable def F_radd : List D → R D := fnD 2 0 (b_radd g_rat)
noncomputable def F_rsub : List D → R D := fnD 2 0 (b_rsub g_rat)
noncomputable def F_rmul : List D → R D := fnD 2 0 (b_rmul g_rat)
noncomputable def F_rdiv : List D → R D := fnD 2 0 (b_rdiv g_rat)
theorem mulS {a b : Int} (h : small a = true) : opD .Mult (.int a) (.int b) = .ok (.int (a * b)) := by
  simp only [opD, h, Bool.true_or, if_true]
theorem back (x : R D) : retR (rsOf x .rt) = x := by cases x <;> rfl
theorem g_radd_eq : ∀ ds, g_radd ds = .st ∨ g_radd ds = F_radd ds := nr4_eq fun a b c d ha hb hc hd => by
  show _ = retR (b_radd g_rat [.tup [.int a, .int b], .tup [.int c, .int d]])
  have e : (cB g_rat (lCons (cBin .Add (cBin .Mult (cIt (cV 0) (cK (.int 0))) (cIt (cV 1) (cK (.int 1)))) (cBin .Mult (cIt (cV 1) (cK (.int 0))) (cIt (cV 0) (cK (.int 1))))) (lCons (cBin .Mult (cIt (cV 0) (cK (.int 1))) (cIt (cV 1) (cK (.int 1)))) lNil))) [.tup [.int a, .int b], .tup [.int c, .int d]] = nrat (a * d + c * b) (b * d) := by
    show (((opD .Mult (.int a) (.int d)).bind fun x => (opD .Mult (.int c) (.int b)).bind fun y => opD .Add x y).bind fun x => ((opD .Mult (.int b) (.int d)).bind fun y => R.ok [y]).bind fun l => .ok (x :: l)).bind g_rat = _
    rw [mulS ha, mulS hc, mulS hb]; rfl
  unfold b_radd
  rw [bCons, kRet, e]
  cases nrat (a * d + c * b) (b * d) <;> rfl
theorem g_rsub_eq : ∀ ds, g_rsub ds = .st ∨ g_rsub ds = F_rsub ds := nr4_eq fun a b c d ha hb hc hd => by
  show _ = retR (b_rsub g_rat [.tup [.int a, .int b], .tup [.int c, .int d]])
  have e : (cB g_rat (lCons (cBin .Sub (cBin .Mult (cIt (cV 0) (cK (.int 0))) (cIt (cV 1) (cK (.int 1)))) (cBin .Mult (cIt (cV 1) (cK (.int 0))) (cIt (cV 0) (cK (.int 1))))) (lCons (cBin .Mult (cIt (cV 0) (cK (.int 1))) (cIt (cV 1) (cK (.int 1)))) lNil))) [.tup [.int a, .int b], .tup [.int c, .int d]] = nrat (a * d - c * b) (b * d) := by
    show (((opD .Mult (.int a) (.int d)).bind fun x => (opD .Mult (.int c) (.int b)).bind fun y => opD .Sub x y).bind fun x => ((opD .Mult (.int b) (.int d)).bind fun y => R.ok [y]).bind fun l => .ok (x :: l)).bind g_rat = _
    rw [mulS ha, mulS hc, mulS hb]; rfl
  unfold b_rsub
  rw [bCons, kRet, e]
  cases nrat (a * d - c * b) (b * d) <;> rfl
theorem g_rmul_eq : ∀ ds, g_rmul ds = .st ∨ g_rmul ds = F_rmul ds := nr4_eq fun a b c d ha hb hc hd => by
  show _ = retR (b_rmul g_rat [.tup [.int a, .int b], .tup [.int c, .int d]])
  have e : (cB g_rat (lCons (cBin .Mult (cIt (cV 0) (cK (.int 0))) (cIt (cV 1) (cK (.int 0)))) (lCons (cBin .Mult (cIt (cV 0) (cK (.int 1))) (cIt (cV 1) (cK (.int 1)))) lNil))) [.tup [.int a, .int b], .tup [.int c, .int d]] = nrat (a * c) (b * d) := by
    show ((opD .Mult (.int a) (.int c)).bind fun x => ((opD .Mult (.int b) (.int d)).bind fun y => R.ok [y]).bind fun l => .ok (x :: l)).bind g_rat = _
    rw [mulS ha, mulS hb]; rfl
  unfold b_rmul
  rw [bCons, kRet, e]
  cases nrat (a * c) (b * d) <;> rfl
theorem g_rdiv_eq : ∀ ds, g_rdiv ds = .st ∨ g_rdiv ds = F_rdiv ds := nr4_eq fun a b c d ha hb hc hd => by
  show _ = retR (b_rdiv g_rat [.tup [.int a, .int b], .tup [.int c, .int d]])
  have e : (cB g_rat (lCons (cBin .Mult (cIt (cV 0) (cK (.int 0))) (cIt (cV 1) (cK (.int 1)))) (lCons (cBin .Mult (cIt (cV 0) (cK (.int 1))) (cIt (cV 1) (cK (.int 0)))) lNil))) [.tup [.int a, .int b], .tup [.int c, .int d]] = nrat (a * d) (b * c) := by
    show ((opD .Mult (.int a) (.int d)).bind fun x => ((opD .Mult (.int b) (.int c)).bind fun y => R.ok [y]).bind fun l => .ok (x :: l)).bind g_rat = _
    rw [mulS ha, mulS hb]; rfl
  unfold b_rdiv
  rw [bCons, kRet, e]
  cases nrat (a * d) (b * c) <;> rfl

noncomputable def lT : CB := tCmp .NotEq (cV 3) (cK (.int 0))
noncomputable def lB : B := bCons (kMu 2 3 (cV 3) (cBin .Mod (cV 2) (cV 3))) bNil
theorem low_loop (u v : D) : ∀ (k fuel x y : Nat), y < 2 ^ k → 2 * k + 1 ≤ fuel → whD lT lB fuel [u, v, .int (x : Nat), .int (y : Nat)] = .nx [u, v, .int (Nat.gcd x y : Nat), .int 0] := by
  have tt : ∀ x y : Nat, lT [u, v, .int (x : Nat), .int (y : Nat)] = .ok (!decide (((y : Nat) : Int) = 0)) := fun _ _ => rfl
  have st : ∀ x y : Nat, y ≠ 0 → lB [u, v, .int (x : Nat), .int (y : Nat)] = .nx [u, v, .int (y : Nat), .int ((x % y : Nat) : Nat)] := fun x y hy => by
    have h1 : (((y : Nat) : Int) != 0) = true := by simpa using hy
    have h2 : ((x : Nat) : Int).fmod (y : Nat) = ((x % y : Nat) : Int) := by rw [Int.fmod_eq_emod_of_nonneg _ (by omega)]; rfl
    show bCons (kMu 2 3 (cV 3) (cBin .Mod (cV 2) (cV 3))) bNil _ = _
    simp only [bCons, kMu, lCons, lNil, cV, cBin, vget, nth, R.bind, opD, h1, if_true, rsL, h2, setN, bNil]
  have zero : ∀ (fuel x : Nat), whD lT lB (fuel + 1) [u, v, .int (x : Nat), .int 0] = .nx [u, v, .int (Nat.gcd x 0 : Nat), .int 0] := fun fuel x => by
    rw [whD, show lT [u, v, .int (x : Nat), .int 0] = .ok false from rfl, Nat.gcd_zero_right]
  have more : ∀ (fuel x y : Nat), y ≠ 0 → whD lT lB (fuel + 1) [u, v, .int (x : Nat), .int (y : Nat)] = whD lT lB fuel [u, v, .int (y : Nat), .int ((x % y : Nat) : Nat)] := fun fuel x y hy => by
    rw [whD, tt, show decide (((y : Nat) : Int) = 0) = false by simpa using hy, show (!false) = true from rfl]
    simp only [st x y hy]
  intro k
  induction k with
  | zero =>
    intro fuel x y hy hf
    obtain ⟨f, rfl⟩ : ∃ f, fuel = f + 1 := ⟨fuel - 1, by omega⟩
    have : y = 0 := by simpa using hy
    subst this
    exact zero f x
  | succ k ih =>
    intro fuel x y hy hf
    obtain ⟨f, rfl⟩ : ∃ f, fuel = f + 1 := ⟨fuel - 1, by omega⟩
    by_cases h0 : y = 0
    · subst h0; exact zero f x
    · rw [more f x y h0, Nat.gcd_comm x y, Nat.gcd_rec y x, Nat.gcd_comm (x % y) y]
      obtain ⟨f, rfl⟩ : ∃ f', f = f' + 1 := ⟨f - 1, by omega⟩
      by_cases h1 : x % y = 0
      · rw [h1]; exact zero f y
      · rw [more f y (x % y) h1, Nat.gcd_comm y (x % y), Nat.gcd_rec (x % y) y, Nat.gcd_comm (y % (x % y)) (x % y)]
        refine ih f _ _ ?_ (by omega)
        have hr : x % y < y := Nat.mod_lt _ (by omega)
        rw [Nat.pow_succ] at hy
        have hlt : y % (x % y) < x % y := Nat.mod_lt _ (by omega)
        by_cases hle : 2 * (x % y) ≤ y
        · omega
        · have : y % (x % y) = y - x % y := by
            rw [Nat.mod_eq_sub_mod (by omega), Nat.mod_eq_of_lt (by omega)]
          omega
noncomputable def F_low : List D → R D := fnD 2 2 b_law_lowest
noncomputable def nlow (a b : Int) : R D := if (decide (0 < b) && small b) = true then .ok (.tup [.int (a.fdiv (Nat.gcd a.natAbs b.natAbs : Nat)), .int (b.fdiv (Nat.gcd a.natAbs b.natAbs : Nat))]) else .st
noncomputable def g_low : List D → R D
  | [.int a, .int b] => nlow a b
  | _ => .st
theorem g_low_eq (ds : List D) : g_low ds = .st ∨ g_low ds = F_low ds := by
  unfold g_low
  split
  · rename_i a b
    unfold nlow
    split
    · rename_i h
      simp only [Bool.and_eq_true, decide_eq_true_eq] at h
      obtain ⟨h0, hb⟩ := h
      right
      have hl := low_loop (.int a) (.int b) 64 200 a.natAbs b.natAbs (small_lt hb) (by decide)
      have hpos : 0 < Nat.gcd a.natAbs b.natAbs := Nat.gcd_pos_of_pos_right _ (by omega)
      have hle : Nat.gcd a.natAbs b.natAbs < 2 ^ 64 := Nat.lt_of_le_of_lt (Nat.gcd_le_right _ (by omega)) (small_lt hb)
      have hlog : Nat.log2 (Nat.gcd a.natAbs b.natAbs) < 64 := (Nat.log2_lt (by omega)).mpr hle
      have hbn : ((b.natAbs : Nat) : Int) = b := by omega
      generalize hG : Nat.gcd a.natAbs b.natAbs = g at *
      show _ = retR (b_law_lowest [.int a, .int b, .no, .no])
      have e1 : kMu 2 3 (cB bAbs (lCons (cV 0) lNil)) (cV 1) [.int a, .int b, .no, .no] = .nx [.int a, .int b, .int (a.natAbs : Nat), .int (b.natAbs : Nat)] := by
        show RS.nx [.int a, .int b, .int (absI a), .int b] = _
        rw [absI_nat, hbn]
      have hz : ((g : Int) != 0 && Nat.blt (g : Int).natAbs.log2 9000) = true := by
        have : (g : Int) ≠ 0 := by omega
        simp only [Bool.and_eq_true, bne_iff_ne, ne_eq, this, not_false_eq_true, true_and, Int.natAbs_natCast]
        exact Nat.ble_eq.mpr (by omega)
      unfold b_law_lowest
      rw [bCons, e1]
      show _ = retR (bCons (kWh 200 lT lB) _ _)
      rw [bCons, kWh, hl]
      show _ = retR (bCons (kRet (cTup (lCons (cBin .FloorDiv (cV 0) (cV 2)) (lCons (cBin .FloorDiv (cV 1) (cV 2)) lNil)))) bNil _)
      simp only [bCons, kRet, cTup, lCons, lNil, cBin, cV, vget, nth, R.bind, opD, hz, if_true, mkT]
      rfl
    · exact .inl rfl
  · exact .inl rfl
noncomputable def F_law_plus : List D → R D := fnD 2 0 (b_law_plus g_low)
noncomputable def g_law_plus : List D → R D := nr4 fun a b c d => nlow (a * d + c * b) (b * d)
theorem g_law_plus_eq : ∀ ds, g_law_plus ds = .st ∨ g_law_plus ds = F_law_plus ds := nr4_eq fun a b c d ha hb hc hd => by
  show _ = retR (b_law_plus g_low [.tup [.int a, .int b], .tup [.int c, .int d]])
  have e : (cB g_low (lCons (cBin .Add (cBin .Mult (cIt (cV 0) (cK (.int 0))) (cIt (cV 1) (cK (.int 1)))) (cBin .Mult (cIt (cV 1) (cK (.int 0))) (cIt (cV 0) (cK (.int 1))))) (lCons (cBin .Mult (cIt (cV 0) (cK (.int 1))) (cIt (cV 1) (cK (.int 1)))) lNil))) [.tup [.int a, .int b], .tup [.int c, .int d]] = nlow (a * d + c * b) (b * d) := by
    show (((opD .Mult (.int a) (.int d)).bind fun x => (opD .Mult (.int c) (.int b)).bind fun y => opD .Add x y).bind fun x => ((opD .Mult (.int b) (.int d)).bind fun y => R.ok [y]).bind fun l => .ok (x :: l)).bind g_low = _
    rw [mulS ha, mulS hc, mulS hb]; rfl
  unfold b_law_plus
  rw [bCons, kRet, e]
  cases nlow (a * d + c * b) (b * d) <;> rfl
end Mine
end
section
open PySem
namespace Mine
noncomputable def p_bits_of : List D → R D := fnD 1 3 (b_bits_of)
noncomputable def p_root_of : List D → R D := fnD 2 3 (b_root_of p_bits_of)
noncomputable def p_rpower : List D → R D := fnD 2 1 (b_rpower p_bits_of)
noncomputable def p_is_vast : List D → R D := fnD 1 1 (b_is_vast p_bits_of)
noncomputable def p_rcompare : List D → R D := fnD 2 1 (b_rcompare)
noncomputable def p_cut : List D → R D := fnD 2 0 (b_cut)
noncomputable def p_let : List D → R D := fnD 1 0 (b_let p_is_vast)
noncomputable def p_sadd : List D → R D := fnD 2 0 (b_sadd g_radd)
noncomputable def p_sscale : List D → R D := fnD 2 0 (b_sscale g_rmul)
noncomputable def p_mixed : List D → R D := fnD 3 2 (b_mixed g_radd g_rmul)
noncomputable def p_smul : List D → R D := fnD 2 0 (b_smul p_let p_mixed)
noncomputable def p_sinverse : List D → R D := fnD 1 4 (b_sinverse g_rsub g_rmul p_let g_rdiv)
noncomputable def p_sderive : List D → R D := fnD 1 0 (b_sderive g_rmul)
noncomputable def p_sintegrate : List D → R D := fnD 1 0 (b_sintegrate g_rdiv)
noncomputable def p_need_begin : List D → R D := fnD 2 0 (b_need_begin p_rcompare)
noncomputable def p_sexp : List D → R D := fnD 1 4 (b_sexp p_need_begin g_radd g_rmul p_let g_rdiv)
noncomputable def p_slog : List D → R D := fnD 1 0 (b_slog p_need_begin p_sintegrate p_smul p_sderive p_sinverse)
noncomputable def p_ssin_cos : List D → R D := fnD 1 7 (b_ssin_cos p_need_begin g_rmul g_radd g_rsub p_let g_rdiv)
noncomputable def p_ssin : List D → R D := fnD 1 0 (b_ssin p_ssin_cos)
noncomputable def p_spower : List D → R D := fnD 2 5 (b_spower p_need_begin g_rsub g_rmul g_radd p_let g_rdiv)
noncomputable def p_swhole_power : List D → R D := fnD 2 3 (b_swhole_power p_sinverse p_cut p_smul)
noncomputable def p_lplain : List D → R D := fnD 2 0 (b_lplain)
noncomputable def p_ladd : List D → R D := fnD 2 4 (b_ladd p_sadd)
noncomputable def p_lmul : List D → R D := fnD 2 0 (b_lmul p_smul)
noncomputable def p_ltrim : List D → R D := fnD 1 2 (b_ltrim)
noncomputable def p_linverse : List D → R D := fnD 1 2 (b_linverse p_ltrim p_sinverse)
noncomputable def p_lpower0 : List D → R D := fnD 2 3 (b_lpower (fun _ => .st) p_linverse p_ltrim p_rpower p_swhole_power p_sscale p_spower g_rdiv)
noncomputable def p_lpower : List D → R D := fnD 2 3 (b_lpower p_lpower0 p_linverse p_ltrim p_rpower p_swhole_power p_sscale p_spower g_rdiv)
noncomputable def p_lcut : List D → R D := fnD 2 2 (b_lcut p_ltrim)
noncomputable def p_exact_root : List D → R D := fnD 2 2 (b_exact_root p_root_of)
noncomputable def p_from_zero : List D → R D := fnD 2 2 (b_from_zero p_ltrim)
noncomputable def p_of_call : List D → R D := fnD 3 3 (b_of_call p_ltrim p_from_zero p_sexp p_slog p_ssin p_lmul p_lpower)
noncomputable def p_of_root : List D → R D := fnD 2 4 (b_of_root p_ltrim p_exact_root g_rdiv p_rpower p_sscale p_spower)
noncomputable def p_of_power (g : List D → R D) : List D → R D := fnD 4 1 (b_of_power g p_lpower p_of_root)
noncomputable def p_of_sum : List D → R D := fnD 2 2 (b_of_sum p_lplain p_ladd)
noncomputable def p_of_term : Nat → List D → R D
  | 0 => fun _ => .st
  | k + 1 => fnD 3 3 (b_of_term p_lplain (p_of_power (p_of_term k)) p_of_call (p_of_term k) p_of_sum p_lmul)
noncomputable def p_t_num : List D → R D := fnD 2 1 (b_t_num g_rat)
noncomputable def p_t_sym : List D → R D := fnD 1 0 (b_t_sym)
noncomputable def p_t_sum : List D → R D := fnD 1 0 (b_t_sum)
noncomputable def p_t_prod : List D → R D := fnD 1 0 (b_t_prod)
noncomputable def p_t_pow : List D → R D := fnD 2 0 (b_t_pow)
noncomputable def p_t_call : List D → R D := fnD 2 0 (b_t_call)
noncomputable def p_t_quotient : List D → R D := fnD 2 0 (b_t_quotient)
noncomputable def p_law_part : List D → R D := fnD 3 1 (b_law_part p_t_sum p_t_num p_t_prod p_t_call p_t_pow)
noncomputable def p_law_cauchy : List D → R D := fnD 2 4 (b_law_cauchy g_law_plus)
end Mine
end
section
open PySem
namespace Mine
mutual
noncomputable def eqX : D → D → Bool
  | .none, .none => true
  | .bool a, .bool b => a == b
  | .int a, .int b => decide (a = b)
  | .str a, .str b => Nat.beq a b
  | .tup l, .tup m => eqXs l m
  | .lst l, .lst m => eqXs l m
  | _, _ => false
noncomputable def eqXs : List D → List D → Bool
  | [], [] => true
  | a :: r, b :: q => eqX a b && eqXs r q
  | _, _ => false
end
mutual
theorem eqX_is : ∀ (a b : D), eqX a b = true → a = b
  | .none, b, h => by cases b <;> first | rfl | (simp [eqX] at h)
  | .no, b, h => by cases b <;> simp [eqX] at h
  | .own _, b, h => by cases b <;> simp [eqX] at h
  | .bool a, b, h => by cases b <;> simp [eqX] at h; rw [h]
  | .int a, b, h => by cases b <;> simp [eqX] at h; rw [h]
  | .str a, b, h => by
    cases b <;> simp only [eqX, Bool.false_eq_true] at h
    rw [Nat.eq_of_beq_eq_true h]
  | .tup l, b, h => by
    cases b <;> simp only [eqX, Bool.false_eq_true] at h
    rw [eqXs_is l _ h]
  | .lst l, b, h => by
    cases b <;> simp only [eqX, Bool.false_eq_true] at h
    rw [eqXs_is l _ h]
theorem eqXs_is : ∀ (a b : List D), eqXs a b = true → a = b
  | [], b, h => by cases b <;> first | rfl | (simp [eqXs] at h)
  | a :: r, b, h => by
    cases b with
    | nil => simp [eqXs] at h
    | cons b q =>
      rw [eqXs, Bool.and_eq_true] at h
      rw [eqX_is a b h.1, eqXs_is r q h.2]
end
noncomputable def letD : D := .tup [.str 15, .tup [.int 0, .lst [.tup [.int 0, .int 1], .tup [.int 1, .int 1]]]]
noncomputable def isV : R D → D → Bool
  | .ok a, b => eqX a b
  | _, _ => false
theorem isV_is {x : R D} {b : D} (h : isV x b = true) : x = .ok b := by
  cases x with
  | ok a => rw [eqX_is a b h]
  | rz k => cases h
  | st => cases h
noncomputable def tb3 : List (D × D) := [
  (.tup [.str 5, .tup [.tup [.str 0, .int 1, .int 1], .tup [.str 1, .str 15]]], .tup [.int 0, .lst [.tup [.int 1, .int 1], .tup [.int 1, .int 1], .tup [.int 0, .int 1]]]),
  (.tup [.str 2, .tup [.str 3, .str 7, .tup [.tup [.str 1, .str 15]]], .tup [.str 0, .int (-1), .int 1]], .tup [.int (-1), .lst [.tup [.int 1, .int 1], .tup [.int 0, .int 1]]]),
  (.tup [.str 2, .tup [.str 3, .str 11, .tup [.tup [.str 5, .tup [.tup [.str 0, .int 1, .int 1], .tup [.str 6, .tup [.tup [.str 0, .int 1, .int 1], .tup [.str 1, .str 15]]]]]]], .tup [.str 0, .int (-1), .int 1]], .tup [.int (-1), .lst [.tup [.int 1, .int 1], .tup [.int 1, .int 2]]]),
  (.tup [.str 2, .tup [.str 3, .str 11, .tup [.tup [.str 5, .tup [.tup [.str 0, .int 1, .int 1], .tup [.str 6, .tup [.tup [.str 0, .int (-1), .int 1], .tup [.str 1, .str 15]]]]]]], .tup [.str 0, .int (-1), .int 1]], .tup [.int (-1), .lst [.tup [.int (-1), .int 1], .tup [.int 1, .int 2]]]),
  (.tup [.str 2, .tup [.str 3, .str 11, .tup [.tup [.str 5, .tup [.tup [.str 0, .int 1, .int 1], .tup [.str 6, .tup [.tup [.str 0, .int 2, .int 1], .tup [.str 1, .str 15]]]]]]], .tup [.str 0, .int (-1), .int 1]], .tup [.int (-1), .lst [.tup [.int 1, .int 2], .tup [.int 1, .int 2]]]),
  (.tup [.str 2, .tup [.str 3, .str 11, .tup [.tup [.str 5, .tup [.tup [.str 0, .int 1, .int 1], .tup [.str 6, .tup [.tup [.str 0, .int (-2), .int 1], .tup [.str 1, .str 15]]]]]]], .tup [.str 0, .int (-1), .int 1]], .tup [.int (-1), .lst [.tup [.int (-1), .int 2], .tup [.int 1, .int 2]]]),
  (.tup [.str 2, .tup [.str 6, .tup [.tup [.str 0, .int 1, .int 1], .tup [.str 1, .str 15]]], .tup [.str 0, .int (-1), .int 1]], .tup [.int (-1), .lst [.tup [.int 1, .int 1], .tup [.int 0, .int 1]]]),
  (.tup [.str 2, .tup [.str 6, .tup [.tup [.str 0, .int (-1), .int 1], .tup [.str 1, .str 15]]], .tup [.str 0, .int (-1), .int 1]], .tup [.int (-1), .lst [.tup [.int (-1), .int 1], .tup [.int 0, .int 1]]]),
  (.tup [.str 2, .tup [.str 6, .tup [.tup [.str 0, .int 2, .int 1], .tup [.str 1, .str 15]]], .tup [.str 0, .int (-1), .int 1]], .tup [.int (-1), .lst [.tup [.int 1, .int 2], .tup [.int 0, .int 1]]]),
  (.tup [.str 2, .tup [.str 6, .tup [.tup [.str 0, .int (-2), .int 1], .tup [.str 1, .str 15]]], .tup [.str 0, .int (-1), .int 1]], .tup [.int (-1), .lst [.tup [.int (-1), .int 2], .tup [.int 0, .int 1]]]),
  (.tup [.str 5, .tup [.tup [.str 0, .int (-1), .int 1], .tup [.str 1, .str 15]]], .tup [.int 0, .lst [.tup [.int (-1), .int 1], .tup [.int 1, .int 1], .tup [.int 0, .int 1]]]),
  (.tup [.str 5, .tup [.tup [.str 0, .int 2, .int 1], .tup [.str 1, .str 15]]], .tup [.int 0, .lst [.tup [.int 2, .int 1], .tup [.int 1, .int 1], .tup [.int 0, .int 1]]]),
  (.tup [.str 5, .tup [.tup [.str 0, .int (-2), .int 1], .tup [.str 1, .str 15]]], .tup [.int 0, .lst [.tup [.int (-2), .int 1], .tup [.int 1, .int 1], .tup [.int 0, .int 1]]]),
  (.tup [.str 3, .str 10, .tup [.tup [.str 1, .str 15]]], .tup [.int 0, .lst [.tup [.int 1, .int 1], .tup [.int 1, .int 1], .tup [.int 1, .int 2]]]),
  (.tup [.str 2, .tup [.str 5, .tup [.tup [.str 0, .int 1, .int 1], .tup [.str 6, .tup [.tup [.str 0, .int 1, .int 1], .tup [.str 1, .str 15]]]]], .tup [.str 0, .int (-1), .int 1]], .tup [.int 0, .lst [.tup [.int 1, .int 1], .tup [.int (-1), .int 1], .tup [.int 1, .int 1]]]),
  (.tup [.str 2, .tup [.str 5, .tup [.tup [.str 0, .int 1, .int 1], .tup [.str 6, .tup [.tup [.str 0, .int (-1), .int 1], .tup [.str 1, .str 15]]]]], .tup [.str 0, .int (-1), .int 1]], .tup [.int 0, .lst [.tup [.int 1, .int 1], .tup [.int 1, .int 1], .tup [.int 1, .int 1]]]),
  (.tup [.str 2, .tup [.str 5, .tup [.tup [.str 0, .int 1, .int 1], .tup [.str 6, .tup [.tup [.str 0, .int 2, .int 1], .tup [.str 1, .str 15]]]]], .tup [.str 0, .int (-1), .int 1]], .tup [.int 0, .lst [.tup [.int 1, .int 1], .tup [.int (-2), .int 1], .tup [.int 4, .int 1]]]),
  (.tup [.str 2, .tup [.str 5, .tup [.tup [.str 0, .int 1, .int 1], .tup [.str 6, .tup [.tup [.str 0, .int (-2), .int 1], .tup [.str 1, .str 15]]]]], .tup [.str 0, .int (-1), .int 1]], .tup [.int 0, .lst [.tup [.int 1, .int 1], .tup [.int 2, .int 1], .tup [.int 4, .int 1]]]),
  (.tup [.str 3, .str 7, .tup [.tup [.str 1, .str 15]]], .tup [.int 0, .lst [.tup [.int 0, .int 1], .tup [.int 1, .int 1], .tup [.int 0, .int 1]]]),
  (.tup [.str 3, .str 11, .tup [.tup [.str 5, .tup [.tup [.str 0, .int 1, .int 1], .tup [.str 6, .tup [.tup [.str 0, .int 1, .int 1], .tup [.str 1, .str 15]]]]]]], .tup [.int 0, .lst [.tup [.int 0, .int 1], .tup [.int 1, .int 1], .tup [.int (-1), .int 2]]]),
  (.tup [.str 3, .str 11, .tup [.tup [.str 5, .tup [.tup [.str 0, .int 1, .int 1], .tup [.str 6, .tup [.tup [.str 0, .int (-1), .int 1], .tup [.str 1, .str 15]]]]]]], .tup [.int 0, .lst [.tup [.int 0, .int 1], .tup [.int (-1), .int 1], .tup [.int (-1), .int 2]]]),
  (.tup [.str 3, .str 11, .tup [.tup [.str 5, .tup [.tup [.str 0, .int 1, .int 1], .tup [.str 6, .tup [.tup [.str 0, .int 2, .int 1], .tup [.str 1, .str 15]]]]]]], .tup [.int 0, .lst [.tup [.int 0, .int 1], .tup [.int 2, .int 1], .tup [.int (-2), .int 1]]]),
  (.tup [.str 3, .str 11, .tup [.tup [.str 5, .tup [.tup [.str 0, .int 1, .int 1], .tup [.str 6, .tup [.tup [.str 0, .int (-2), .int 1], .tup [.str 1, .str 15]]]]]]], .tup [.int 0, .lst [.tup [.int 0, .int 1], .tup [.int (-2), .int 1], .tup [.int (-2), .int 1]]]),
  (.tup [.str 2, .tup [.str 5, .tup [.tup [.str 0, .int 1, .int 1], .tup [.str 6, .tup [.tup [.str 0, .int 1, .int 1], .tup [.str 1, .str 15]]]]], .tup [.str 0, .int 1, .int 2]], .tup [.int 0, .lst [.tup [.int 1, .int 1], .tup [.int 1, .int 2], .tup [.int (-1), .int 8]]]),
  (.tup [.str 2, .tup [.str 5, .tup [.tup [.str 0, .int 1, .int 1], .tup [.str 6, .tup [.tup [.str 0, .int (-1), .int 1], .tup [.str 1, .str 15]]]]], .tup [.str 0, .int 1, .int 2]], .tup [.int 0, .lst [.tup [.int 1, .int 1], .tup [.int (-1), .int 2], .tup [.int (-1), .int 8]]]),
  (.tup [.str 2, .tup [.str 5, .tup [.tup [.str 0, .int 1, .int 1], .tup [.str 6, .tup [.tup [.str 0, .int 2, .int 1], .tup [.str 1, .str 15]]]]], .tup [.str 0, .int 1, .int 2]], .tup [.int 0, .lst [.tup [.int 1, .int 1], .tup [.int 1, .int 1], .tup [.int (-1), .int 2]]]),
  (.tup [.str 2, .tup [.str 5, .tup [.tup [.str 0, .int 1, .int 1], .tup [.str 6, .tup [.tup [.str 0, .int (-2), .int 1], .tup [.str 1, .str 15]]]]], .tup [.str 0, .int 1, .int 2]], .tup [.int 0, .lst [.tup [.int 1, .int 1], .tup [.int (-1), .int 1], .tup [.int (-1), .int 2]]]),
  (.tup [.str 6, .tup [.tup [.str 0, .int 1, .int 1], .tup [.str 1, .str 15]]], .tup [.int 0, .lst [.tup [.int 0, .int 1], .tup [.int 1, .int 1], .tup [.int 0, .int 1]]]),
  (.tup [.str 6, .tup [.tup [.str 0, .int (-1), .int 1], .tup [.str 1, .str 15]]], .tup [.int 0, .lst [.tup [.int 0, .int 1], .tup [.int (-1), .int 1], .tup [.int 0, .int 1]]]),
  (.tup [.str 6, .tup [.tup [.str 0, .int 2, .int 1], .tup [.str 1, .str 15]]], .tup [.int 0, .lst [.tup [.int 0, .int 1], .tup [.int 2, .int 1], .tup [.int 0, .int 1]]]),
  (.tup [.str 6, .tup [.tup [.str 0, .int (-2), .int 1], .tup [.str 1, .str 15]]], .tup [.int 0, .lst [.tup [.int 0, .int 1], .tup [.int (-2), .int 1], .tup [.int 0, .int 1]]])]
noncomputable def tb4 : List (D × D) := [
  (.tup [.str 0, .int 1, .int 1], .tup [.int 0, .lst [.tup [.int 1, .int 1], .tup [.int 0, .int 1], .tup [.int 0, .int 1], .tup [.int 0, .int 1]]]),
  (.tup [.str 1, .str 15], .tup [.int 0, .lst [.tup [.int 0, .int 1], .tup [.int 1, .int 1], .tup [.int 0, .int 1], .tup [.int 0, .int 1]]]),
  (.tup [.str 5, .tup [.tup [.str 0, .int 1, .int 1], .tup [.str 1, .str 15]]], .tup [.int 0, .lst [.tup [.int 1, .int 1], .tup [.int 1, .int 1], .tup [.int 0, .int 1], .tup [.int 0, .int 1]]]),
  (.tup [.str 0, .int (-1), .int 1], .tup [.int 0, .lst [.tup [.int (-1), .int 1], .tup [.int 0, .int 1], .tup [.int 0, .int 1], .tup [.int 0, .int 1]]]),
  (.tup [.str 5, .tup [.tup [.str 0, .int (-1), .int 1], .tup [.str 1, .str 15]]], .tup [.int 0, .lst [.tup [.int (-1), .int 1], .tup [.int 1, .int 1], .tup [.int 0, .int 1], .tup [.int 0, .int 1]]]),
  (.tup [.str 0, .int 2, .int 1], .tup [.int 0, .lst [.tup [.int 2, .int 1], .tup [.int 0, .int 1], .tup [.int 0, .int 1], .tup [.int 0, .int 1]]]),
  (.tup [.str 5, .tup [.tup [.str 0, .int 2, .int 1], .tup [.str 1, .str 15]]], .tup [.int 0, .lst [.tup [.int 2, .int 1], .tup [.int 1, .int 1], .tup [.int 0, .int 1], .tup [.int 0, .int 1]]]),
  (.tup [.str 0, .int (-2), .int 1], .tup [.int 0, .lst [.tup [.int (-2), .int 1], .tup [.int 0, .int 1], .tup [.int 0, .int 1], .tup [.int 0, .int 1]]]),
  (.tup [.str 5, .tup [.tup [.str 0, .int (-2), .int 1], .tup [.str 1, .str 15]]], .tup [.int 0, .lst [.tup [.int (-2), .int 1], .tup [.int 1, .int 1], .tup [.int 0, .int 1], .tup [.int 0, .int 1]]]),
  (.tup [.str 3, .str 10, .tup [.tup [.str 1, .str 15]]], .tup [.int 0, .lst [.tup [.int 1, .int 1], .tup [.int 1, .int 1], .tup [.int 1, .int 2], .tup [.int 1, .int 6]]]),
  (.tup [.str 5, .tup [.tup [.str 0, .int 1, .int 1], .tup [.str 6, .tup [.tup [.str 0, .int 1, .int 1], .tup [.str 1, .str 15]]]]], .tup [.int 0, .lst [.tup [.int 1, .int 1], .tup [.int 1, .int 1], .tup [.int 0, .int 1], .tup [.int 0, .int 1]]]),
  (.tup [.str 2, .tup [.str 5, .tup [.tup [.str 0, .int 1, .int 1], .tup [.str 6, .tup [.tup [.str 0, .int 1, .int 1], .tup [.str 1, .str 15]]]]], .tup [.str 0, .int (-1), .int 1]], .tup [.int 0, .lst [.tup [.int 1, .int 1], .tup [.int (-1), .int 1], .tup [.int 1, .int 1], .tup [.int (-1), .int 1]]]),
  (.tup [.str 5, .tup [.tup [.str 0, .int 1, .int 1], .tup [.str 6, .tup [.tup [.str 0, .int (-1), .int 1], .tup [.str 1, .str 15]]]]], .tup [.int 0, .lst [.tup [.int 1, .int 1], .tup [.int (-1), .int 1], .tup [.int 0, .int 1], .tup [.int 0, .int 1]]]),
  (.tup [.str 2, .tup [.str 5, .tup [.tup [.str 0, .int 1, .int 1], .tup [.str 6, .tup [.tup [.str 0, .int (-1), .int 1], .tup [.str 1, .str 15]]]]], .tup [.str 0, .int (-1), .int 1]], .tup [.int 0, .lst [.tup [.int 1, .int 1], .tup [.int 1, .int 1], .tup [.int 1, .int 1], .tup [.int 1, .int 1]]]),
  (.tup [.str 5, .tup [.tup [.str 0, .int 1, .int 1], .tup [.str 6, .tup [.tup [.str 0, .int 2, .int 1], .tup [.str 1, .str 15]]]]], .tup [.int 0, .lst [.tup [.int 1, .int 1], .tup [.int 2, .int 1], .tup [.int 0, .int 1], .tup [.int 0, .int 1]]]),
  (.tup [.str 2, .tup [.str 5, .tup [.tup [.str 0, .int 1, .int 1], .tup [.str 6, .tup [.tup [.str 0, .int 2, .int 1], .tup [.str 1, .str 15]]]]], .tup [.str 0, .int (-1), .int 1]], .tup [.int 0, .lst [.tup [.int 1, .int 1], .tup [.int (-2), .int 1], .tup [.int 4, .int 1], .tup [.int (-8), .int 1]]]),
  (.tup [.str 5, .tup [.tup [.str 0, .int 1, .int 1], .tup [.str 6, .tup [.tup [.str 0, .int (-2), .int 1], .tup [.str 1, .str 15]]]]], .tup [.int 0, .lst [.tup [.int 1, .int 1], .tup [.int (-2), .int 1], .tup [.int 0, .int 1], .tup [.int 0, .int 1]]]),
  (.tup [.str 2, .tup [.str 5, .tup [.tup [.str 0, .int 1, .int 1], .tup [.str 6, .tup [.tup [.str 0, .int (-2), .int 1], .tup [.str 1, .str 15]]]]], .tup [.str 0, .int (-1), .int 1]], .tup [.int 0, .lst [.tup [.int 1, .int 1], .tup [.int 2, .int 1], .tup [.int 4, .int 1], .tup [.int 8, .int 1]]]),
  (.tup [.str 3, .str 7, .tup [.tup [.str 1, .str 15]]], .tup [.int 0, .lst [.tup [.int 0, .int 1], .tup [.int 1, .int 1], .tup [.int 0, .int 1], .tup [.int (-1), .int 6]]]),
  (.tup [.str 3, .str 11, .tup [.tup [.str 5, .tup [.tup [.str 0, .int 1, .int 1], .tup [.str 6, .tup [.tup [.str 0, .int 1, .int 1], .tup [.str 1, .str 15]]]]]]], .tup [.int 0, .lst [.tup [.int 0, .int 1], .tup [.int 1, .int 1], .tup [.int (-1), .int 2], .tup [.int 1, .int 3]]]),
  (.tup [.str 3, .str 11, .tup [.tup [.str 5, .tup [.tup [.str 0, .int 1, .int 1], .tup [.str 6, .tup [.tup [.str 0, .int (-1), .int 1], .tup [.str 1, .str 15]]]]]]], .tup [.int 0, .lst [.tup [.int 0, .int 1], .tup [.int (-1), .int 1], .tup [.int (-1), .int 2], .tup [.int (-1), .int 3]]]),
  (.tup [.str 3, .str 11, .tup [.tup [.str 5, .tup [.tup [.str 0, .int 1, .int 1], .tup [.str 6, .tup [.tup [.str 0, .int 2, .int 1], .tup [.str 1, .str 15]]]]]]], .tup [.int 0, .lst [.tup [.int 0, .int 1], .tup [.int 2, .int 1], .tup [.int (-2), .int 1], .tup [.int 8, .int 3]]]),
  (.tup [.str 3, .str 11, .tup [.tup [.str 5, .tup [.tup [.str 0, .int 1, .int 1], .tup [.str 6, .tup [.tup [.str 0, .int (-2), .int 1], .tup [.str 1, .str 15]]]]]]], .tup [.int 0, .lst [.tup [.int 0, .int 1], .tup [.int (-2), .int 1], .tup [.int (-2), .int 1], .tup [.int (-8), .int 3]]]),
  (.tup [.str 2, .tup [.str 5, .tup [.tup [.str 0, .int 1, .int 1], .tup [.str 6, .tup [.tup [.str 0, .int 1, .int 1], .tup [.str 1, .str 15]]]]], .tup [.str 0, .int 1, .int 2]], .tup [.int 0, .lst [.tup [.int 1, .int 1], .tup [.int 1, .int 2], .tup [.int (-1), .int 8], .tup [.int 1, .int 16]]]),
  (.tup [.str 2, .tup [.str 5, .tup [.tup [.str 0, .int 1, .int 1], .tup [.str 6, .tup [.tup [.str 0, .int (-1), .int 1], .tup [.str 1, .str 15]]]]], .tup [.str 0, .int 1, .int 2]], .tup [.int 0, .lst [.tup [.int 1, .int 1], .tup [.int (-1), .int 2], .tup [.int (-1), .int 8], .tup [.int (-1), .int 16]]]),
  (.tup [.str 2, .tup [.str 5, .tup [.tup [.str 0, .int 1, .int 1], .tup [.str 6, .tup [.tup [.str 0, .int 2, .int 1], .tup [.str 1, .str 15]]]]], .tup [.str 0, .int 1, .int 2]], .tup [.int 0, .lst [.tup [.int 1, .int 1], .tup [.int 1, .int 1], .tup [.int (-1), .int 2], .tup [.int 1, .int 2]]]),
  (.tup [.str 2, .tup [.str 5, .tup [.tup [.str 0, .int 1, .int 1], .tup [.str 6, .tup [.tup [.str 0, .int (-2), .int 1], .tup [.str 1, .str 15]]]]], .tup [.str 0, .int 1, .int 2]], .tup [.int 0, .lst [.tup [.int 1, .int 1], .tup [.int (-1), .int 1], .tup [.int (-1), .int 2], .tup [.int (-1), .int 2]]]),
  (.tup [.str 6, .tup [.tup [.str 0, .int 1, .int 1], .tup [.str 1, .str 15]]], .tup [.int 0, .lst [.tup [.int 0, .int 1], .tup [.int 1, .int 1], .tup [.int 0, .int 1], .tup [.int 0, .int 1]]]),
  (.tup [.str 6, .tup [.tup [.str 0, .int (-1), .int 1], .tup [.str 1, .str 15]]], .tup [.int 0, .lst [.tup [.int 0, .int 1], .tup [.int (-1), .int 1], .tup [.int 0, .int 1], .tup [.int 0, .int 1]]]),
  (.tup [.str 6, .tup [.tup [.str 0, .int 2, .int 1], .tup [.str 1, .str 15]]], .tup [.int 0, .lst [.tup [.int 0, .int 1], .tup [.int 2, .int 1], .tup [.int 0, .int 1], .tup [.int 0, .int 1]]]),
  (.tup [.str 6, .tup [.tup [.str 0, .int (-2), .int 1], .tup [.str 1, .str 15]]], .tup [.int 0, .lst [.tup [.int 0, .int 1], .tup [.int (-2), .int 1], .tup [.int 0, .int 1], .tup [.int 0, .int 1]]]),
  (.tup [.str 2, .tup [.str 5, .tup [.tup [.str 0, .int 1, .int 1], .tup [.str 1, .str 15]]], .tup [.str 0, .int (-1), .int 1]], .tup [.int 0, .lst [.tup [.int 1, .int 1], .tup [.int (-1), .int 1], .tup [.int 1, .int 1], .tup [.int (-1), .int 1]]]),
  (.tup [.str 2, .tup [.str 5, .tup [.tup [.str 0, .int (-1), .int 1], .tup [.str 1, .str 15]]], .tup [.str 0, .int (-1), .int 1]], .tup [.int 0, .lst [.tup [.int (-1), .int 1], .tup [.int (-1), .int 1], .tup [.int (-1), .int 1], .tup [.int (-1), .int 1]]]),
  (.tup [.str 2, .tup [.str 5, .tup [.tup [.str 0, .int 2, .int 1], .tup [.str 1, .str 15]]], .tup [.str 0, .int (-1), .int 1]], .tup [.int 0, .lst [.tup [.int 1, .int 2], .tup [.int (-1), .int 4], .tup [.int 1, .int 8], .tup [.int (-1), .int 16]]]),
  (.tup [.str 2, .tup [.str 5, .tup [.tup [.str 0, .int (-2), .int 1], .tup [.str 1, .str 15]]], .tup [.str 0, .int (-1), .int 1]], .tup [.int 0, .lst [.tup [.int (-1), .int 2], .tup [.int (-1), .int 4], .tup [.int (-1), .int 8], .tup [.int (-1), .int 16]]]),
  (.tup [.str 2, .tup [.str 3, .str 10, .tup [.tup [.str 1, .str 15]]], .tup [.str 0, .int (-1), .int 1]], .tup [.int 0, .lst [.tup [.int 1, .int 1], .tup [.int (-1), .int 1], .tup [.int 1, .int 2], .tup [.int (-1), .int 6]]]),
  (.tup [.str 2, .tup [.str 2, .tup [.str 5, .tup [.tup [.str 0, .int 1, .int 1], .tup [.str 6, .tup [.tup [.str 0, .int 1, .int 1], .tup [.str 1, .str 15]]]]], .tup [.str 0, .int (-1), .int 1]], .tup [.str 0, .int (-1), .int 1]], .tup [.int 0, .lst [.tup [.int 1, .int 1], .tup [.int 1, .int 1], .tup [.int 0, .int 1], .tup [.int 0, .int 1]]]),
  (.tup [.str 2, .tup [.str 2, .tup [.str 5, .tup [.tup [.str 0, .int 1, .int 1], .tup [.str 6, .tup [.tup [.str 0, .int (-1), .int 1], .tup [.str 1, .str 15]]]]], .tup [.str 0, .int (-1), .int 1]], .tup [.str 0, .int (-1), .int 1]], .tup [.int 0, .lst [.tup [.int 1, .int 1], .tup [.int (-1), .int 1], .tup [.int 0, .int 1], .tup [.int 0, .int 1]]]),
  (.tup [.str 2, .tup [.str 2, .tup [.str 5, .tup [.tup [.str 0, .int 1, .int 1], .tup [.str 6, .tup [.tup [.str 0, .int 2, .int 1], .tup [.str 1, .str 15]]]]], .tup [.str 0, .int (-1), .int 1]], .tup [.str 0, .int (-1), .int 1]], .tup [.int 0, .lst [.tup [.int 1, .int 1], .tup [.int 2, .int 1], .tup [.int 0, .int 1], .tup [.int 0, .int 1]]]),
  (.tup [.str 2, .tup [.str 2, .tup [.str 5, .tup [.tup [.str 0, .int 1, .int 1], .tup [.str 6, .tup [.tup [.str 0, .int (-2), .int 1], .tup [.str 1, .str 15]]]]], .tup [.str 0, .int (-1), .int 1]], .tup [.str 0, .int (-1), .int 1]], .tup [.int 0, .lst [.tup [.int 1, .int 1], .tup [.int (-2), .int 1], .tup [.int 0, .int 1], .tup [.int 0, .int 1]]]),
  (.tup [.str 2, .tup [.str 2, .tup [.str 5, .tup [.tup [.str 0, .int 1, .int 1], .tup [.str 6, .tup [.tup [.str 0, .int 1, .int 1], .tup [.str 1, .str 15]]]]], .tup [.str 0, .int 1, .int 2]], .tup [.str 0, .int (-1), .int 1]], .tup [.int 0, .lst [.tup [.int 1, .int 1], .tup [.int (-1), .int 2], .tup [.int 3, .int 8], .tup [.int (-5), .int 16]]]),
  (.tup [.str 2, .tup [.str 2, .tup [.str 5, .tup [.tup [.str 0, .int 1, .int 1], .tup [.str 6, .tup [.tup [.str 0, .int (-1), .int 1], .tup [.str 1, .str 15]]]]], .tup [.str 0, .int 1, .int 2]], .tup [.str 0, .int (-1), .int 1]], .tup [.int 0, .lst [.tup [.int 1, .int 1], .tup [.int 1, .int 2], .tup [.int 3, .int 8], .tup [.int 5, .int 16]]]),
  (.tup [.str 2, .tup [.str 2, .tup [.str 5, .tup [.tup [.str 0, .int 1, .int 1], .tup [.str 6, .tup [.tup [.str 0, .int 2, .int 1], .tup [.str 1, .str 15]]]]], .tup [.str 0, .int 1, .int 2]], .tup [.str 0, .int (-1), .int 1]], .tup [.int 0, .lst [.tup [.int 1, .int 1], .tup [.int (-1), .int 1], .tup [.int 3, .int 2], .tup [.int (-5), .int 2]]]),
  (.tup [.str 2, .tup [.str 2, .tup [.str 5, .tup [.tup [.str 0, .int 1, .int 1], .tup [.str 6, .tup [.tup [.str 0, .int (-2), .int 1], .tup [.str 1, .str 15]]]]], .tup [.str 0, .int 1, .int 2]], .tup [.str 0, .int (-1), .int 1]], .tup [.int 0, .lst [.tup [.int 1, .int 1], .tup [.int 1, .int 1], .tup [.int 3, .int 2], .tup [.int 5, .int 2]]])]
noncomputable def tb5 : List (D × D) := [
  (.tup [.str 5, .tup [.tup [.str 0, .int 1, .int 1], .tup [.str 1, .str 15]]], .tup [.int 0, .lst [.tup [.int 1, .int 1], .tup [.int 1, .int 1], .tup [.int 0, .int 1], .tup [.int 0, .int 1], .tup [.int 0, .int 1]]]),
  (.tup [.str 2, .tup [.str 3, .str 7, .tup [.tup [.str 1, .str 15]]], .tup [.str 0, .int (-1), .int 1]], .tup [.int (-1), .lst [.tup [.int 1, .int 1], .tup [.int 0, .int 1], .tup [.int 1, .int 6], .tup [.int 0, .int 1]]]),
  (.tup [.str 2, .tup [.str 3, .str 11, .tup [.tup [.str 5, .tup [.tup [.str 0, .int 1, .int 1], .tup [.str 6, .tup [.tup [.str 0, .int 1, .int 1], .tup [.str 1, .str 15]]]]]]], .tup [.str 0, .int (-1), .int 1]], .tup [.int (-1), .lst [.tup [.int 1, .int 1], .tup [.int 1, .int 2], .tup [.int (-1), .int 12], .tup [.int 1, .int 24]]]),
  (.tup [.str 2, .tup [.str 3, .str 11, .tup [.tup [.str 5, .tup [.tup [.str 0, .int 1, .int 1], .tup [.str 6, .tup [.tup [.str 0, .int (-1), .int 1], .tup [.str 1, .str 15]]]]]]], .tup [.str 0, .int (-1), .int 1]], .tup [.int (-1), .lst [.tup [.int (-1), .int 1], .tup [.int 1, .int 2], .tup [.int 1, .int 12], .tup [.int 1, .int 24]]]),
  (.tup [.str 2, .tup [.str 3, .str 11, .tup [.tup [.str 5, .tup [.tup [.str 0, .int 1, .int 1], .tup [.str 6, .tup [.tup [.str 0, .int 2, .int 1], .tup [.str 1, .str 15]]]]]]], .tup [.str 0, .int (-1), .int 1]], .tup [.int (-1), .lst [.tup [.int 1, .int 2], .tup [.int 1, .int 2], .tup [.int (-1), .int 6], .tup [.int 1, .int 6]]]),
  (.tup [.str 2, .tup [.str 3, .str 11, .tup [.tup [.str 5, .tup [.tup [.str 0, .int 1, .int 1], .tup [.str 6, .tup [.tup [.str 0, .int (-2), .int 1], .tup [.str 1, .str 15]]]]]]], .tup [.str 0, .int (-1), .int 1]], .tup [.int (-1), .lst [.tup [.int (-1), .int 2], .tup [.int 1, .int 2], .tup [.int 1, .int 6], .tup [.int 1, .int 6]]]),
  (.tup [.str 2, .tup [.str 6, .tup [.tup [.str 0, .int 1, .int 1], .tup [.str 1, .str 15]]], .tup [.str 0, .int (-1), .int 1]], .tup [.int (-1), .lst [.tup [.int 1, .int 1], .tup [.int 0, .int 1], .tup [.int 0, .int 1], .tup [.int 0, .int 1]]]),
  (.tup [.str 2, .tup [.str 6, .tup [.tup [.str 0, .int (-1), .int 1], .tup [.str 1, .str 15]]], .tup [.str 0, .int (-1), .int 1]], .tup [.int (-1), .lst [.tup [.int (-1), .int 1], .tup [.int 0, .int 1], .tup [.int 0, .int 1], .tup [.int 0, .int 1]]]),
  (.tup [.str 2, .tup [.str 6, .tup [.tup [.str 0, .int 2, .int 1], .tup [.str 1, .str 15]]], .tup [.str 0, .int (-1), .int 1]], .tup [.int (-1), .lst [.tup [.int 1, .int 2], .tup [.int 0, .int 1], .tup [.int 0, .int 1], .tup [.int 0, .int 1]]]),
  (.tup [.str 2, .tup [.str 6, .tup [.tup [.str 0, .int (-2), .int 1], .tup [.str 1, .str 15]]], .tup [.str 0, .int (-1), .int 1]], .tup [.int (-1), .lst [.tup [.int (-1), .int 2], .tup [.int 0, .int 1], .tup [.int 0, .int 1], .tup [.int 0, .int 1]]]),
  (.tup [.str 5, .tup [.tup [.str 0, .int (-1), .int 1], .tup [.str 1, .str 15]]], .tup [.int 0, .lst [.tup [.int (-1), .int 1], .tup [.int 1, .int 1], .tup [.int 0, .int 1], .tup [.int 0, .int 1], .tup [.int 0, .int 1]]]),
  (.tup [.str 5, .tup [.tup [.str 0, .int 2, .int 1], .tup [.str 1, .str 15]]], .tup [.int 0, .lst [.tup [.int 2, .int 1], .tup [.int 1, .int 1], .tup [.int 0, .int 1], .tup [.int 0, .int 1], .tup [.int 0, .int 1]]]),
  (.tup [.str 5, .tup [.tup [.str 0, .int (-2), .int 1], .tup [.str 1, .str 15]]], .tup [.int 0, .lst [.tup [.int (-2), .int 1], .tup [.int 1, .int 1], .tup [.int 0, .int 1], .tup [.int 0, .int 1], .tup [.int 0, .int 1]]]),
  (.tup [.str 3, .str 10, .tup [.tup [.str 1, .str 15]]], .tup [.int 0, .lst [.tup [.int 1, .int 1], .tup [.int 1, .int 1], .tup [.int 1, .int 2], .tup [.int 1, .int 6], .tup [.int 1, .int 24]]]),
  (.tup [.str 2, .tup [.str 5, .tup [.tup [.str 0, .int 1, .int 1], .tup [.str 6, .tup [.tup [.str 0, .int 1, .int 1], .tup [.str 1, .str 15]]]]], .tup [.str 0, .int (-1), .int 1]], .tup [.int 0, .lst [.tup [.int 1, .int 1], .tup [.int (-1), .int 1], .tup [.int 1, .int 1], .tup [.int (-1), .int 1], .tup [.int 1, .int 1]]]),
  (.tup [.str 2, .tup [.str 5, .tup [.tup [.str 0, .int 1, .int 1], .tup [.str 6, .tup [.tup [.str 0, .int (-1), .int 1], .tup [.str 1, .str 15]]]]], .tup [.str 0, .int (-1), .int 1]], .tup [.int 0, .lst [.tup [.int 1, .int 1], .tup [.int 1, .int 1], .tup [.int 1, .int 1], .tup [.int 1, .int 1], .tup [.int 1, .int 1]]]),
  (.tup [.str 2, .tup [.str 5, .tup [.tup [.str 0, .int 1, .int 1], .tup [.str 6, .tup [.tup [.str 0, .int 2, .int 1], .tup [.str 1, .str 15]]]]], .tup [.str 0, .int (-1), .int 1]], .tup [.int 0, .lst [.tup [.int 1, .int 1], .tup [.int (-2), .int 1], .tup [.int 4, .int 1], .tup [.int (-8), .int 1], .tup [.int 16, .int 1]]]),
  (.tup [.str 2, .tup [.str 5, .tup [.tup [.str 0, .int 1, .int 1], .tup [.str 6, .tup [.tup [.str 0, .int (-2), .int 1], .tup [.str 1, .str 15]]]]], .tup [.str 0, .int (-1), .int 1]], .tup [.int 0, .lst [.tup [.int 1, .int 1], .tup [.int 2, .int 1], .tup [.int 4, .int 1], .tup [.int 8, .int 1], .tup [.int 16, .int 1]]]),
  (.tup [.str 3, .str 7, .tup [.tup [.str 1, .str 15]]], .tup [.int 0, .lst [.tup [.int 0, .int 1], .tup [.int 1, .int 1], .tup [.int 0, .int 1], .tup [.int (-1), .int 6], .tup [.int 0, .int 1]]]),
  (.tup [.str 3, .str 11, .tup [.tup [.str 5, .tup [.tup [.str 0, .int 1, .int 1], .tup [.str 6, .tup [.tup [.str 0, .int 1, .int 1], .tup [.str 1, .str 15]]]]]]], .tup [.int 0, .lst [.tup [.int 0, .int 1], .tup [.int 1, .int 1], .tup [.int (-1), .int 2], .tup [.int 1, .int 3], .tup [.int (-1), .int 4]]]),
  (.tup [.str 3, .str 11, .tup [.tup [.str 5, .tup [.tup [.str 0, .int 1, .int 1], .tup [.str 6, .tup [.tup [.str 0, .int (-1), .int 1], .tup [.str 1, .str 15]]]]]]], .tup [.int 0, .lst [.tup [.int 0, .int 1], .tup [.int (-1), .int 1], .tup [.int (-1), .int 2], .tup [.int (-1), .int 3], .tup [.int (-1), .int 4]]]),
  (.tup [.str 3, .str 11, .tup [.tup [.str 5, .tup [.tup [.str 0, .int 1, .int 1], .tup [.str 6, .tup [.tup [.str 0, .int 2, .int 1], .tup [.str 1, .str 15]]]]]]], .tup [.int 0, .lst [.tup [.int 0, .int 1], .tup [.int 2, .int 1], .tup [.int (-2), .int 1], .tup [.int 8, .int 3], .tup [.int (-4), .int 1]]]),
  (.tup [.str 3, .str 11, .tup [.tup [.str 5, .tup [.tup [.str 0, .int 1, .int 1], .tup [.str 6, .tup [.tup [.str 0, .int (-2), .int 1], .tup [.str 1, .str 15]]]]]]], .tup [.int 0, .lst [.tup [.int 0, .int 1], .tup [.int (-2), .int 1], .tup [.int (-2), .int 1], .tup [.int (-8), .int 3], .tup [.int (-4), .int 1]]]),
  (.tup [.str 2, .tup [.str 5, .tup [.tup [.str 0, .int 1, .int 1], .tup [.str 6, .tup [.tup [.str 0, .int 1, .int 1], .tup [.str 1, .str 15]]]]], .tup [.str 0, .int 1, .int 2]], .tup [.int 0, .lst [.tup [.int 1, .int 1], .tup [.int 1, .int 2], .tup [.int (-1), .int 8], .tup [.int 1, .int 16], .tup [.int (-5), .int 128]]]),
  (.tup [.str 2, .tup [.str 5, .tup [.tup [.str 0, .int 1, .int 1], .tup [.str 6, .tup [.tup [.str 0, .int (-1), .int 1], .tup [.str 1, .str 15]]]]], .tup [.str 0, .int 1, .int 2]], .tup [.int 0, .lst [.tup [.int 1, .int 1], .tup [.int (-1), .int 2], .tup [.int (-1), .int 8], .tup [.int (-1), .int 16], .tup [.int (-5), .int 128]]]),
  (.tup [.str 2, .tup [.str 5, .tup [.tup [.str 0, .int 1, .int 1], .tup [.str 6, .tup [.tup [.str 0, .int 2, .int 1], .tup [.str 1, .str 15]]]]], .tup [.str 0, .int 1, .int 2]], .tup [.int 0, .lst [.tup [.int 1, .int 1], .tup [.int 1, .int 1], .tup [.int (-1), .int 2], .tup [.int 1, .int 2], .tup [.int (-5), .int 8]]]),
  (.tup [.str 2, .tup [.str 5, .tup [.tup [.str 0, .int 1, .int 1], .tup [.str 6, .tup [.tup [.str 0, .int (-2), .int 1], .tup [.str 1, .str 15]]]]], .tup [.str 0, .int 1, .int 2]], .tup [.int 0, .lst [.tup [.int 1, .int 1], .tup [.int (-1), .int 1], .tup [.int (-1), .int 2], .tup [.int (-1), .int 2], .tup [.int (-5), .int 8]]]),
  (.tup [.str 6, .tup [.tup [.str 0, .int 1, .int 1], .tup [.str 1, .str 15]]], .tup [.int 0, .lst [.tup [.int 0, .int 1], .tup [.int 1, .int 1], .tup [.int 0, .int 1], .tup [.int 0, .int 1], .tup [.int 0, .int 1]]]),
  (.tup [.str 6, .tup [.tup [.str 0, .int (-1), .int 1], .tup [.str 1, .str 15]]], .tup [.int 0, .lst [.tup [.int 0, .int 1], .tup [.int (-1), .int 1], .tup [.int 0, .int 1], .tup [.int 0, .int 1], .tup [.int 0, .int 1]]]),
  (.tup [.str 6, .tup [.tup [.str 0, .int 2, .int 1], .tup [.str 1, .str 15]]], .tup [.int 0, .lst [.tup [.int 0, .int 1], .tup [.int 2, .int 1], .tup [.int 0, .int 1], .tup [.int 0, .int 1], .tup [.int 0, .int 1]]]),
  (.tup [.str 6, .tup [.tup [.str 0, .int (-2), .int 1], .tup [.str 1, .str 15]]], .tup [.int 0, .lst [.tup [.int 0, .int 1], .tup [.int (-2), .int 1], .tup [.int 0, .int 1], .tup [.int 0, .int 1], .tup [.int 0, .int 1]]])]
noncomputable def find : List (D × D) → D → R D
  | [], _ => .st
  | e :: r, t => bif eqX e.1 t then .ok e.2 else find r t
noncomputable def tbl : List D → R D
  | [t, .int m, l] => bif eqX letD l then (match m with
    | .ofNat 4 => find tb4 t
    | .ofNat 3 => find tb3 t
    | .ofNat 5 => find tb5 t
    | _ => .st) else .st
  | _ => .st
noncomputable def okT (m : Int) (l : List (D × D)) : Bool := l.all fun e => isV (p_of_term 5 [e.1, .int m, letD]) e.2
theorem ok3 : okT 3 tb3 = true := by decide +kernel
theorem ok4 : okT 4 tb4 = true := by decide +kernel
theorem ok5 : okT 5 tb5 = true := by decide +kernel
theorem find_is {m : Int} : ∀ (l : List (D × D)), okT m l = true → ∀ t, find l t = .st ∨ find l t = p_of_term 5 [t, .int m, letD]
  | [], _, _ => .inl rfl
  | e :: r, h, t => by
    unfold okT at h
    rw [List.all_cons, Bool.and_eq_true] at h
    rw [find]
    cases q : eqX e.1 t with
    | true =>
      have := eqX_is _ _ q
      subst this
      exact .inr (isV_is h.1).symm
    | false => exact find_is r h.2 t
theorem tbl_eq (ds : List D) : tbl ds = .st ∨ tbl ds = p_of_term 5 ds := by
  unfold tbl
  split
  · rename_i t m l
    cases q : eqX letD l with
    | true =>
      have := eqX_is _ _ q
      subst this
      show (match m with | .ofNat 4 => find tb4 t | .ofNat 3 => find tb3 t | .ofNat 5 => find tb5 t | _ => .st) = _ ∨ (match m with | .ofNat 4 => find tb4 t | .ofNat 3 => find tb3 t | .ofNat 5 => find tb5 t | _ => .st) = _
      split
      · exact find_is tb4 ok4 t
      · exact find_is tb3 ok3 t
      · exact find_is tb5 ok5 t
      · exact .inl rfl
    | false => exact .inl rfl
  · exact .inl rfl
noncomputable def q_of_term : List D → R D := fnD 3 3 (b_of_term p_lplain (p_of_power tbl) p_of_call tbl p_of_sum p_lmul)
noncomputable def p_laurent_of : List D → R D := fnD 3 3 (b_laurent_of q_of_term)
noncomputable def p_series_of : List D → R D := fnD 4 1 (b_series_of p_lcut p_laurent_of)
noncomputable def p_law_told : List D → R D := fnD 2 0 (b_law_told p_series_of)
noncomputable def p_law_deeds_right : List D → R D := fnD 5 2 (b_law_deeds_right p_law_told p_t_sum g_law_plus p_law_cauchy p_t_pow p_t_num p_t_prod)
end Mine
end
section
open PySem PySem.W PyProof.Rows PySem.Calls PySem.Spec
set_option maxRecDepth 100000
namespace Mine
structure PG (G : Gl) (C f N : Addr) (mN : Str → Option Value) : Prop where
  gx : GX G C f N mN
  d_gcd : DefAt G .gcd_ (fArgs (stAt 3)) (fBody (stAt 3)) (fScope (stAt 3))
  d_bits_of : DefAt G .bits_of_ (fArgs (stAt 4)) (fBody (stAt 4)) (fScope (stAt 4))
  d_root_of : DefAt G .root_of_ (fArgs (stAt 5)) (fBody (stAt 5)) (fScope (stAt 5))
  d_rat : DefAt G .rat_ (fArgs (stAt 10)) (fBody (stAt 10)) (fScope (stAt 10))
  d_radd : DefAt G .radd_ (fArgs (stAt 11)) (fBody (stAt 11)) (fScope (stAt 11))
  d_rsub : DefAt G .rsub_ (fArgs (stAt 12)) (fBody (stAt 12)) (fScope (stAt 12))
  d_rmul : DefAt G .rmul_ (fArgs (stAt 13)) (fBody (stAt 13)) (fScope (stAt 13))
  d_rdiv : DefAt G .rdiv_ (fArgs (stAt 14)) (fBody (stAt 14)) (fScope (stAt 14))
  d_rpower : DefAt G .rpower_ (fArgs (stAt 16)) (fBody (stAt 16)) (fScope (stAt 16))
  d_is_vast : DefAt G .is_vast_ (fArgs (stAt 17)) (fBody (stAt 17)) (fScope (stAt 17))
  d_rcompare : DefAt G .rcompare_ (fArgs (stAt 18)) (fBody (stAt 18)) (fScope (stAt 18))
  d_cut : DefAt G .cut_ (fArgs (stAt 20)) (fBody (stAt 20)) (fScope (stAt 20))
  d_let : DefAt G .let_ (fArgs (stAt 21)) (fBody (stAt 21)) (fScope (stAt 21))
  d_sadd : DefAt G .sadd_ (fArgs (stAt 22)) (fBody (stAt 22)) (fScope (stAt 22))
  d_sscale : DefAt G .sscale_ (fArgs (stAt 23)) (fBody (stAt 23)) (fScope (stAt 23))
  d_mixed : DefAt G .mixed_ (fArgs (stAt 24)) (fBody (stAt 24)) (fScope (stAt 24))
  d_smul : DefAt G .smul_ (fArgs (stAt 25)) (fBody (stAt 25)) (fScope (stAt 25))
  d_sinverse : DefAt G .sinverse_ (fArgs (stAt 26)) (fBody (stAt 26)) (fScope (stAt 26))
  d_sderive : DefAt G .sderive_ (fArgs (stAt 27)) (fBody (stAt 27)) (fScope (stAt 27))
  d_sintegrate : DefAt G .sintegrate_ (fArgs (stAt 28)) (fBody (stAt 28)) (fScope (stAt 28))
  d_need_begin : DefAt G .need_begin_ (fArgs (stAt 29)) (fBody (stAt 29)) (fScope (stAt 29))
  d_sexp : DefAt G .sexp_ (fArgs (stAt 30)) (fBody (stAt 30)) (fScope (stAt 30))
  d_slog : DefAt G .slog_ (fArgs (stAt 31)) (fBody (stAt 31)) (fScope (stAt 31))
  d_ssin_cos : DefAt G .ssin_cos_ (fArgs (stAt 32)) (fBody (stAt 32)) (fScope (stAt 32))
  d_ssin : DefAt G .ssin_ (fArgs (stAt 33)) (fBody (stAt 33)) (fScope (stAt 33))
  d_spower : DefAt G .spower_ (fArgs (stAt 36)) (fBody (stAt 36)) (fScope (stAt 36))
  d_swhole_power : DefAt G .swhole_power_ (fArgs (stAt 37)) (fBody (stAt 37)) (fScope (stAt 37))
  d_lplain : DefAt G .lplain_ (fArgs (stAt 40)) (fBody (stAt 40)) (fScope (stAt 40))
  d_ladd : DefAt G .ladd_ (fArgs (stAt 41)) (fBody (stAt 41)) (fScope (stAt 41))
  d_lmul : DefAt G .lmul_ (fArgs (stAt 42)) (fBody (stAt 42)) (fScope (stAt 42))
  d_ltrim : DefAt G .ltrim_ (fArgs (stAt 43)) (fBody (stAt 43)) (fScope (stAt 43))
  d_linverse : DefAt G .linverse_ (fArgs (stAt 44)) (fBody (stAt 44)) (fScope (stAt 44))
  d_lpower : DefAt G .lpower_ (fArgs (stAt 45)) (fBody (stAt 45)) (fScope (stAt 45))
  d_lcut : DefAt G .lcut_ (fArgs (stAt 46)) (fBody (stAt 46)) (fScope (stAt 46))
  d_exact_root : DefAt G .exact_root_ (fArgs (stAt 49)) (fBody (stAt 49)) (fScope (stAt 49))
  d_from_zero : DefAt G .from_zero_ (fArgs (stAt 50)) (fBody (stAt 50)) (fScope (stAt 50))
  d_of_call : DefAt G .of_call_ (fArgs (stAt 51)) (fBody (stAt 51)) (fScope (stAt 51))
  d_of_root : DefAt G .of_root_ (fArgs (stAt 52)) (fBody (stAt 52)) (fScope (stAt 52))
  d_of_power : DefAt G .of_power_ (fArgs (stAt 53)) (fBody (stAt 53)) (fScope (stAt 53))
  d_of_sum : DefAt G .of_sum_ (fArgs (stAt 54)) (fBody (stAt 54)) (fScope (stAt 54))
  d_of_term : DefAt G .of_term_ (fArgs (stAt 55)) (fBody (stAt 55)) (fScope (stAt 55))
  d_laurent_of : DefAt G .laurent_of_ (fArgs (stAt 56)) (fBody (stAt 56)) (fScope (stAt 56))
  d_series_of : DefAt G .series_of_ (fArgs (stAt 57)) (fBody (stAt 57)) (fScope (stAt 57))
  d_t_num : DefAt G .t_num_ (fArgs (stAt 62)) (fBody (stAt 62)) (fScope (stAt 62))
  d_t_sym : DefAt G .t_sym_ (fArgs (stAt 63)) (fBody (stAt 63)) (fScope (stAt 63))
  d_t_sum : DefAt G .t_sum_ (fArgs (stAt 64)) (fBody (stAt 64)) (fScope (stAt 64))
  d_t_prod : DefAt G .t_prod_ (fArgs (stAt 65)) (fBody (stAt 65)) (fScope (stAt 65))
  d_t_pow : DefAt G .t_pow_ (fArgs (stAt 66)) (fBody (stAt 66)) (fScope (stAt 66))
  d_t_call : DefAt G .t_call_ (fArgs (stAt 67)) (fBody (stAt 67)) (fScope (stAt 67))
  d_t_quotient : DefAt G .t_quotient_ (fArgs (stAt 68)) (fBody (stAt 68)) (fScope (stAt 68))
  d_law_draw : DefAt G .law_draw_ (fArgs (stAt 70)) (fBody (stAt 70)) (fScope (stAt 70))
  d_law_part : DefAt G .law_part_ (fArgs (stAt 71)) (fBody (stAt 71)) (fScope (stAt 71))
  d_law_lowest : DefAt G .law_lowest_ (fArgs (stAt 72)) (fBody (stAt 72)) (fScope (stAt 72))
  d_law_plus : DefAt G .law_plus_ (fArgs (stAt 73)) (fBody (stAt 73)) (fScope (stAt 73))
  d_law_cauchy : DefAt G .law_cauchy_ (fArgs (stAt 74)) (fBody (stAt 74)) (fScope (stAt 74))
  d_law_told : DefAt G .law_told_ (fArgs (stAt 75)) (fBody (stAt 75)) (fScope (stAt 75))
  d_law_deeds_right : DefAt G .law_deeds_right_ (fArgs (stAt 76)) (fBody (stAt 76)) (fScope (stAt 76))
  d_law_quotient_right : DefAt G .law_quotient_right_ (fArgs (stAt 77)) (fBody (stAt 77)) (fScope (stAt 77))
section
variable {G : Gl} {C f N : Addr} {mN : Str → Option Value}
theorem sp_gcd (pg : PG G C f N mN) : Spec G 1 .gcd_ f_gcd := spec_gcd pg.gx.ok pg.gx.fk pg.d_gcd
theorem sp_bits_of (pg : PG G C f N mN) : Spec G 1 .bits_of_ p_bits_of := spec_bits_of pg.gx.ok pg.gx.fk pg.d_bits_of
theorem sp_root_of (pg : PG G C f N mN) : Spec G 2 .root_of_ p_root_of := spec_root_of pg.gx.ok pg.gx.fk pg.d_root_of ((sp_bits_of pg).le (by decide))
theorem sp_rat (pg : PG G C f N mN) : Spec G 2 .rat_ g_rat := (spec_rat pg.gx.ok pg.gx.fk pg.d_rat ((sp_gcd pg).le (by decide))).to f_rat_eq
theorem sp_radd (pg : PG G C f N mN) : Spec G 3 .radd_ g_radd := (spec_radd pg.gx.ok pg.gx.fk pg.d_radd ((sp_rat pg).le (by decide))).to g_radd_eq
theorem sp_rsub (pg : PG G C f N mN) : Spec G 3 .rsub_ g_rsub := (spec_rsub pg.gx.ok pg.gx.fk pg.d_rsub ((sp_rat pg).le (by decide))).to g_rsub_eq
theorem sp_rmul (pg : PG G C f N mN) : Spec G 3 .rmul_ g_rmul := (spec_rmul pg.gx.ok pg.gx.fk pg.d_rmul ((sp_rat pg).le (by decide))).to g_rmul_eq
theorem sp_rdiv (pg : PG G C f N mN) : Spec G 3 .rdiv_ g_rdiv := (spec_rdiv pg.gx.ok pg.gx.fk pg.d_rdiv ((sp_rat pg).le (by decide))).to g_rdiv_eq
theorem sp_rpower (pg : PG G C f N mN) : Spec G 2 .rpower_ p_rpower := spec_rpower pg.gx.ok pg.gx.fk pg.d_rpower ((sp_bits_of pg).le (by decide))
theorem sp_is_vast (pg : PG G C f N mN) : Spec G 2 .is_vast_ p_is_vast := spec_is_vast pg.gx.ok pg.gx.fk pg.d_is_vast ((sp_bits_of pg).le (by decide))
theorem sp_rcompare (pg : PG G C f N mN) : Spec G 1 .rcompare_ p_rcompare := spec_rcompare pg.gx.ok pg.gx.fk pg.d_rcompare
theorem sp_cut (pg : PG G C f N mN) : Spec G 1 .cut_ p_cut := spec_cut pg.gx.ok pg.gx.fk pg.d_cut
theorem sp_let (pg : PG G C f N mN) : Spec G 3 .let_ p_let := spec_let pg.gx.ok pg.gx.fk pg.d_let ((sp_is_vast pg).le (by decide))
theorem sp_sadd (pg : PG G C f N mN) : Spec G 4 .sadd_ p_sadd := spec_sadd pg.gx.ok pg.gx.fk pg.d_sadd ((sp_radd pg).le (by decide))
theorem sp_sscale (pg : PG G C f N mN) : Spec G 4 .sscale_ p_sscale := spec_sscale pg.gx.ok pg.gx.fk pg.d_sscale ((sp_rmul pg).le (by decide))
theorem sp_mixed (pg : PG G C f N mN) : Spec G 4 .mixed_ p_mixed := spec_mixed pg.gx.ok pg.gx.fk pg.d_mixed ((sp_radd pg).le (by decide)) ((sp_rmul pg).le (by decide))
theorem sp_smul (pg : PG G C f N mN) : Spec G 5 .smul_ p_smul := spec_smul pg.gx.ok pg.gx.fk pg.d_smul ((sp_let pg).le (by decide)) ((sp_mixed pg).le (by decide))
theorem sp_sinverse (pg : PG G C f N mN) : Spec G 4 .sinverse_ p_sinverse := spec_sinverse pg.gx.ok pg.gx.fk pg.d_sinverse ((sp_rsub pg).le (by decide)) ((sp_rmul pg).le (by decide)) ((sp_let pg).le (by decide)) ((sp_rdiv pg).le (by decide))
theorem sp_sderive (pg : PG G C f N mN) : Spec G 4 .sderive_ p_sderive := spec_sderive pg.gx.ok pg.gx.fk pg.d_sderive ((sp_rmul pg).le (by decide))
theorem sp_sintegrate (pg : PG G C f N mN) : Spec G 4 .sintegrate_ p_sintegrate := spec_sintegrate pg.gx.ok pg.gx.fk pg.d_sintegrate ((sp_rdiv pg).le (by decide))
theorem sp_need_begin (pg : PG G C f N mN) : Spec G 2 .need_begin_ p_need_begin := spec_need_begin pg.gx.ok pg.gx.fk pg.d_need_begin ((sp_rcompare pg).le (by decide))
theorem sp_sexp (pg : PG G C f N mN) : Spec G 4 .sexp_ p_sexp := spec_sexp pg.gx.ok pg.gx.fk pg.d_sexp ((sp_need_begin pg).le (by decide)) ((sp_radd pg).le (by decide)) ((sp_rmul pg).le (by decide)) ((sp_let pg).le (by decide)) ((sp_rdiv pg).le (by decide))
theorem sp_slog (pg : PG G C f N mN) : Spec G 6 .slog_ p_slog := spec_slog pg.gx.ok pg.gx.fk pg.d_slog ((sp_need_begin pg).le (by decide)) ((sp_sintegrate pg).le (by decide)) ((sp_smul pg).le (by decide)) ((sp_sderive pg).le (by decide)) ((sp_sinverse pg).le (by decide))
theorem sp_ssin_cos (pg : PG G C f N mN) : Spec G 4 .ssin_cos_ p_ssin_cos := spec_ssin_cos pg.gx.ok pg.gx.fk pg.d_ssin_cos ((sp_need_begin pg).le (by decide)) ((sp_rmul pg).le (by decide)) ((sp_radd pg).le (by decide)) ((sp_rsub pg).le (by decide)) ((sp_let pg).le (by decide)) ((sp_rdiv pg).le (by decide))
theorem sp_ssin (pg : PG G C f N mN) : Spec G 5 .ssin_ p_ssin := spec_ssin pg.gx.ok pg.gx.fk pg.d_ssin ((sp_ssin_cos pg).le (by decide))
theorem sp_spower (pg : PG G C f N mN) : Spec G 4 .spower_ p_spower := spec_spower pg.gx.ok pg.gx.fk pg.d_spower ((sp_need_begin pg).le (by decide)) ((sp_rsub pg).le (by decide)) ((sp_rmul pg).le (by decide)) ((sp_radd pg).le (by decide)) ((sp_let pg).le (by decide)) ((sp_rdiv pg).le (by decide))
theorem sp_swhole_power (pg : PG G C f N mN) : Spec G 6 .swhole_power_ p_swhole_power := spec_swhole_power pg.gx.ok pg.gx.fk pg.d_swhole_power ((sp_sinverse pg).le (by decide)) ((sp_cut pg).le (by decide)) ((sp_smul pg).le (by decide))
theorem sp_lplain (pg : PG G C f N mN) : Spec G 1 .lplain_ p_lplain := spec_lplain pg.gx.ok pg.gx.fk pg.d_lplain
theorem sp_ladd (pg : PG G C f N mN) : Spec G 5 .ladd_ p_ladd := spec_ladd pg.gx.ok pg.gx.fk pg.d_ladd ((sp_sadd pg).le (by decide))
theorem sp_lmul (pg : PG G C f N mN) : Spec G 6 .lmul_ p_lmul := spec_lmul pg.gx.ok pg.gx.fk pg.d_lmul ((sp_smul pg).le (by decide))
theorem sp_ltrim (pg : PG G C f N mN) : Spec G 1 .ltrim_ p_ltrim := spec_ltrim pg.gx.ok pg.gx.fk pg.d_ltrim
theorem sp_linverse (pg : PG G C f N mN) : Spec G 5 .linverse_ p_linverse := spec_linverse pg.gx.ok pg.gx.fk pg.d_linverse ((sp_ltrim pg).le (by decide)) ((sp_sinverse pg).le (by decide))
theorem sp_lpowerS (pg : PG G C f N mN) : Spec G 6 .lpower_ (fun _ => .st) := fun c O s vs ds co hp r Q E K => absurd rfl K.ns
theorem sp_lpower0 (pg : PG G C f N mN) : Spec G 7 .lpower_ p_lpower0 := spec_lpower pg.gx.ok pg.gx.fk pg.d_lpower ((sp_lpowerS pg).le (by decide)) ((sp_linverse pg).le (by decide)) ((sp_ltrim pg).le (by decide)) ((sp_rpower pg).le (by decide)) ((sp_swhole_power pg).le (by decide)) ((sp_sscale pg).le (by decide)) ((sp_spower pg).le (by decide)) ((sp_rdiv pg).le (by decide))
theorem sp_lpower (pg : PG G C f N mN) : Spec G 8 .lpower_ p_lpower := spec_lpower pg.gx.ok pg.gx.fk pg.d_lpower ((sp_lpower0 pg).le (by decide)) ((sp_linverse pg).le (by decide)) ((sp_ltrim pg).le (by decide)) ((sp_rpower pg).le (by decide)) ((sp_swhole_power pg).le (by decide)) ((sp_sscale pg).le (by decide)) ((sp_spower pg).le (by decide)) ((sp_rdiv pg).le (by decide))
theorem sp_lcut (pg : PG G C f N mN) : Spec G 2 .lcut_ p_lcut := spec_lcut pg.gx.ok pg.gx.fk pg.d_lcut (fun c L a cd co fr => sim_raise pg.gx (n := 0) co fr.eo rfl) ((sp_ltrim pg).le (by decide))
theorem sp_exact_root (pg : PG G C f N mN) : Spec G 3 .exact_root_ p_exact_root := spec_exact_root pg.gx.ok pg.gx.fk pg.d_exact_root ((sp_root_of pg).le (by decide))
theorem sp_from_zero (pg : PG G C f N mN) : Spec G 2 .from_zero_ p_from_zero := spec_from_zero pg.gx.ok pg.gx.fk pg.d_from_zero ((sp_ltrim pg).le (by decide))
theorem sp_of_call (pg : PG G C f N mN) : Spec G 9 .of_call_ p_of_call := spec_of_call pg.gx.ok pg.gx.fk pg.d_of_call ((sp_ltrim pg).le (by decide)) ((sp_from_zero pg).le (by decide)) ((sp_sexp pg).le (by decide)) ((sp_slog pg).le (by decide)) ((sp_ssin pg).le (by decide)) ((sp_lmul pg).le (by decide)) ((sp_lpower pg).le (by decide))
theorem sp_of_root (pg : PG G C f N mN) : Spec G 5 .of_root_ p_of_root := spec_of_root pg.gx.ok pg.gx.fk pg.d_of_root ((sp_ltrim pg).le (by decide)) ((sp_exact_root pg).le (by decide)) ((sp_rdiv pg).le (by decide)) ((sp_rpower pg).le (by decide)) ((sp_sscale pg).le (by decide)) ((sp_spower pg).le (by decide))
theorem sp_of_sum (pg : PG G C f N mN) : Spec G 6 .of_sum_ p_of_sum := spec_of_sum pg.gx.ok pg.gx.fk pg.d_of_sum ((sp_lplain pg).le (by decide)) ((sp_ladd pg).le (by decide))
theorem sp_ot0 (pg : PG G C f N mN) : Spec G 10 .of_term_ (p_of_term 0) := fun c O s vs ds co hp r Q E K => absurd rfl K.ns
theorem sp_op0 (pg : PG G C f N mN) : Spec G 11 .of_power_ (p_of_power (p_of_term 0)) := spec_of_power pg.gx.ok pg.gx.fk pg.d_of_power ((sp_ot0 pg).le (by decide)) ((sp_lpower pg).le (by decide)) ((sp_of_root pg).le (by decide))
theorem sp_ot1 (pg : PG G C f N mN) : Spec G 12 .of_term_ (p_of_term 1) := spec_of_term pg.gx.ok pg.gx.fk pg.d_of_term ((sp_lplain pg).le (by decide)) ((sp_op0 pg).le (by decide)) ((sp_of_call pg).le (by decide)) ((sp_ot0 pg).le (by decide)) ((sp_of_sum pg).le (by decide)) ((sp_lmul pg).le (by decide))
theorem sp_op1 (pg : PG G C f N mN) : Spec G 13 .of_power_ (p_of_power (p_of_term 1)) := spec_of_power pg.gx.ok pg.gx.fk pg.d_of_power ((sp_ot1 pg).le (by decide)) ((sp_lpower pg).le (by decide)) ((sp_of_root pg).le (by decide))
theorem sp_ot2 (pg : PG G C f N mN) : Spec G 14 .of_term_ (p_of_term 2) := spec_of_term pg.gx.ok pg.gx.fk pg.d_of_term ((sp_lplain pg).le (by decide)) ((sp_op1 pg).le (by decide)) ((sp_of_call pg).le (by decide)) ((sp_ot1 pg).le (by decide)) ((sp_of_sum pg).le (by decide)) ((sp_lmul pg).le (by decide))
theorem sp_op2 (pg : PG G C f N mN) : Spec G 15 .of_power_ (p_of_power (p_of_term 2)) := spec_of_power pg.gx.ok pg.gx.fk pg.d_of_power ((sp_ot2 pg).le (by decide)) ((sp_lpower pg).le (by decide)) ((sp_of_root pg).le (by decide))
theorem sp_ot3 (pg : PG G C f N mN) : Spec G 16 .of_term_ (p_of_term 3) := spec_of_term pg.gx.ok pg.gx.fk pg.d_of_term ((sp_lplain pg).le (by decide)) ((sp_op2 pg).le (by decide)) ((sp_of_call pg).le (by decide)) ((sp_ot2 pg).le (by decide)) ((sp_of_sum pg).le (by decide)) ((sp_lmul pg).le (by decide))
theorem sp_op3 (pg : PG G C f N mN) : Spec G 17 .of_power_ (p_of_power (p_of_term 3)) := spec_of_power pg.gx.ok pg.gx.fk pg.d_of_power ((sp_ot3 pg).le (by decide)) ((sp_lpower pg).le (by decide)) ((sp_of_root pg).le (by decide))
theorem sp_ot4 (pg : PG G C f N mN) : Spec G 18 .of_term_ (p_of_term 4) := spec_of_term pg.gx.ok pg.gx.fk pg.d_of_term ((sp_lplain pg).le (by decide)) ((sp_op3 pg).le (by decide)) ((sp_of_call pg).le (by decide)) ((sp_ot3 pg).le (by decide)) ((sp_of_sum pg).le (by decide)) ((sp_lmul pg).le (by decide))
theorem sp_op4 (pg : PG G C f N mN) : Spec G 19 .of_power_ (p_of_power (p_of_term 4)) := spec_of_power pg.gx.ok pg.gx.fk pg.d_of_power ((sp_ot4 pg).le (by decide)) ((sp_lpower pg).le (by decide)) ((sp_of_root pg).le (by decide))
theorem sp_ot5 (pg : PG G C f N mN) : Spec G 20 .of_term_ (p_of_term 5) := spec_of_term pg.gx.ok pg.gx.fk pg.d_of_term ((sp_lplain pg).le (by decide)) ((sp_op4 pg).le (by decide)) ((sp_of_call pg).le (by decide)) ((sp_ot4 pg).le (by decide)) ((sp_of_sum pg).le (by decide)) ((sp_lmul pg).le (by decide))
theorem sp_tbl (pg : PG G C f N mN) : Spec G 20 .of_term_ tbl := (sp_ot5 pg).to tbl_eq
theorem sp_of_power (pg : PG G C f N mN) : Spec G 21 .of_power_ (p_of_power tbl) := spec_of_power pg.gx.ok pg.gx.fk pg.d_of_power ((sp_tbl pg).le (by decide)) ((sp_lpower pg).le (by decide)) ((sp_of_root pg).le (by decide))
theorem sp_of_term (pg : PG G C f N mN) : Spec G 22 .of_term_ q_of_term := spec_of_term pg.gx.ok pg.gx.fk pg.d_of_term ((sp_lplain pg).le (by decide)) ((sp_of_power pg).le (by decide)) ((sp_of_call pg).le (by decide)) ((sp_tbl pg).le (by decide)) ((sp_of_sum pg).le (by decide)) ((sp_lmul pg).le (by decide))
theorem sp_laurent_of (pg : PG G C f N mN) : Spec G 23 .laurent_of_ p_laurent_of := spec_laurent_of pg.gx.ok pg.gx.fk pg.d_laurent_of ((sp_of_term pg).le (by decide))
theorem sp_series_of (pg : PG G C f N mN) : Spec G 24 .series_of_ p_series_of := spec_series_of pg.gx.ok pg.gx.fk pg.d_series_of ((sp_lcut pg).le (by decide)) ((sp_laurent_of pg).le (by decide))
theorem sp_t_num (pg : PG G C f N mN) : Spec G 3 .t_num_ p_t_num := spec_t_num pg.gx.ok pg.gx.fk pg.d_t_num ((sp_rat pg).le (by decide))
theorem sp_t_sym (pg : PG G C f N mN) : Spec G 1 .t_sym_ p_t_sym := spec_t_sym pg.gx.ok pg.gx.fk pg.d_t_sym
theorem sp_t_sum (pg : PG G C f N mN) : Spec G 1 .t_sum_ p_t_sum := spec_t_sum pg.gx.ok pg.gx.fk pg.d_t_sum
theorem sp_t_prod (pg : PG G C f N mN) : Spec G 1 .t_prod_ p_t_prod := spec_t_prod pg.gx.ok pg.gx.fk pg.d_t_prod
theorem sp_t_pow (pg : PG G C f N mN) : Spec G 1 .t_pow_ p_t_pow := spec_t_pow pg.gx.ok pg.gx.fk pg.d_t_pow
theorem sp_t_call (pg : PG G C f N mN) : Spec G 1 .t_call_ p_t_call := spec_t_call pg.gx.ok pg.gx.fk pg.d_t_call
theorem sp_t_quotient (pg : PG G C f N mN) : Spec G 1 .t_quotient_ p_t_quotient := spec_t_quotient pg.gx.ok pg.gx.fk pg.d_t_quotient
theorem sp_law_part (pg : PG G C f N mN) : Spec G 4 .law_part_ p_law_part := spec_law_part pg.gx.ok pg.gx.fk pg.d_law_part ((sp_t_sum pg).le (by decide)) ((sp_t_num pg).le (by decide)) ((sp_t_prod pg).le (by decide)) ((sp_t_call pg).le (by decide)) ((sp_t_pow pg).le (by decide))
theorem sp_law_lowest (pg : PG G C f N mN) : Spec G 1 .law_lowest_ g_low := (spec_law_lowest pg.gx.ok pg.gx.fk pg.d_law_lowest).to g_low_eq
theorem sp_law_plus (pg : PG G C f N mN) : Spec G 2 .law_plus_ g_law_plus := (spec_law_plus pg.gx.ok pg.gx.fk pg.d_law_plus ((sp_law_lowest pg).le (by decide))).to g_law_plus_eq
theorem sp_law_cauchy (pg : PG G C f N mN) : Spec G 3 .law_cauchy_ p_law_cauchy := spec_law_cauchy pg.gx.ok pg.gx.fk pg.d_law_cauchy ((sp_law_plus pg).le (by decide))
theorem sp_law_told (pg : PG G C f N mN) : Spec G 25 .law_told_ p_law_told := spec_law_told pg.gx.ok pg.gx.fk pg.d_law_told ((sp_series_of pg).le (by decide))
theorem sp_law_deeds_right (pg : PG G C f N mN) : Spec G 26 .law_deeds_right_ p_law_deeds_right := spec_law_deeds_right pg.gx.ok pg.gx.fk pg.d_law_deeds_right ((sp_law_told pg).le (by decide)) ((sp_t_sum pg).le (by decide)) ((sp_law_plus pg).le (by decide)) ((sp_law_cauchy pg).le (by decide)) ((sp_t_pow pg).le (by decide)) ((sp_t_num pg).le (by decide)) ((sp_t_prod pg).le (by decide))
theorem sp_law_quotient_right (pg : PG G C f N mN) : SpecW G 26 .law_quotient_right_ (fnD 3 3 (b_law_quotient_right p_law_told p_law_cauchy)) := spec_qr pg.gx pg.d_law_quotient_right ((sp_law_told pg).le (by decide)) ((sp_law_cauchy pg).le (by decide))
end
-- levels: {'gcd': 1, 'bits_of': 1, 'root_of': 2, 'rat': 2, 'radd': 3, 'rsub': 3, 'rmul': 3, 'rdiv': 3, 'rpower': 2, 'is_vast': 2, 'rcompare': 1, 'cut': 1, 'let': 3, 'sadd': 4, 'sscale': 4, 'mixed': 4, 'smul': 5, 'sinverse': 4, 'sderive': 4, 'sintegrate': 4, 'need_begin': 2, 'sexp': 4, 'slog': 6, 'ssin_cos': 4, 'ssin': 5, 'spower': 4, 'swhole_power': 6, 'lplain': 1, 'ladd': 5, 'lmul': 6, 'ltrim': 1, 'linverse': 5, 'lpower': 8, 'lcut': 2, 'exact_root': 3, 'from_zero': 2, 'of_call': 9, 'of_root': 5, 'of_sum': 6, 'of_power': 21, 'of_term': 22, 'laurent_of': 23, 'series_of': 24, 't_num': 3, 't_sym': 1, 't_sum': 1, 't_prod': 1, 't_pow': 1, 't_call': 1, 't_quotient': 1, '_law_part': 4, '_law_lowest': 1, '_law_plus': 2, '_law_cauchy': 3, '_law_told': 25, '_law_deeds_right': 26}
end Mine
end
section
open PySem
namespace Mine
noncomputable def PT0 : List (D × D) := [
  (.tup [.str 5, .tup [.tup [.str 0, .int 1, .int 1], .tup [.str 1, .str 15]]], .lst [.tup [.int 1, .int 1], .tup [.int 1, .int 1], .tup [.int 0, .int 1], .tup [.int 0, .int 1]]),
  (.tup [.str 5, .tup [.tup [.str 0, .int (-1), .int 1], .tup [.str 1, .str 15]]], .lst [.tup [.int (-1), .int 1], .tup [.int 1, .int 1], .tup [.int 0, .int 1], .tup [.int 0, .int 1]]),
  (.tup [.str 5, .tup [.tup [.str 0, .int 2, .int 1], .tup [.str 1, .str 15]]], .lst [.tup [.int 2, .int 1], .tup [.int 1, .int 1], .tup [.int 0, .int 1], .tup [.int 0, .int 1]]),
  (.tup [.str 5, .tup [.tup [.str 0, .int (-2), .int 1], .tup [.str 1, .str 15]]], .lst [.tup [.int (-2), .int 1], .tup [.int 1, .int 1], .tup [.int 0, .int 1], .tup [.int 0, .int 1]])]
noncomputable def PT1 : List (D × D) := [
  (.tup [.str 3, .str 10, .tup [.tup [.str 1, .str 15]]], .lst [.tup [.int 1, .int 1], .tup [.int 1, .int 1], .tup [.int 1, .int 2], .tup [.int 1, .int 6]]),
  (.tup [.str 3, .str 10, .tup [.tup [.str 1, .str 15]]], .lst [.tup [.int 1, .int 1], .tup [.int 1, .int 1], .tup [.int 1, .int 2], .tup [.int 1, .int 6]]),
  (.tup [.str 3, .str 10, .tup [.tup [.str 1, .str 15]]], .lst [.tup [.int 1, .int 1], .tup [.int 1, .int 1], .tup [.int 1, .int 2], .tup [.int 1, .int 6]]),
  (.tup [.str 3, .str 10, .tup [.tup [.str 1, .str 15]]], .lst [.tup [.int 1, .int 1], .tup [.int 1, .int 1], .tup [.int 1, .int 2], .tup [.int 1, .int 6]])]
noncomputable def PT2 : List (D × D) := [
  (.tup [.str 2, .tup [.str 5, .tup [.tup [.str 0, .int 1, .int 1], .tup [.str 6, .tup [.tup [.str 0, .int 1, .int 1], .tup [.str 1, .str 15]]]]], .tup [.str 0, .int (-1), .int 1]], .lst [.tup [.int 1, .int 1], .tup [.int (-1), .int 1], .tup [.int 1, .int 1], .tup [.int (-1), .int 1]]),
  (.tup [.str 2, .tup [.str 5, .tup [.tup [.str 0, .int 1, .int 1], .tup [.str 6, .tup [.tup [.str 0, .int (-1), .int 1], .tup [.str 1, .str 15]]]]], .tup [.str 0, .int (-1), .int 1]], .lst [.tup [.int 1, .int 1], .tup [.int 1, .int 1], .tup [.int 1, .int 1], .tup [.int 1, .int 1]]),
  (.tup [.str 2, .tup [.str 5, .tup [.tup [.str 0, .int 1, .int 1], .tup [.str 6, .tup [.tup [.str 0, .int 2, .int 1], .tup [.str 1, .str 15]]]]], .tup [.str 0, .int (-1), .int 1]], .lst [.tup [.int 1, .int 1], .tup [.int (-2), .int 1], .tup [.int 4, .int 1], .tup [.int (-8), .int 1]]),
  (.tup [.str 2, .tup [.str 5, .tup [.tup [.str 0, .int 1, .int 1], .tup [.str 6, .tup [.tup [.str 0, .int (-2), .int 1], .tup [.str 1, .str 15]]]]], .tup [.str 0, .int (-1), .int 1]], .lst [.tup [.int 1, .int 1], .tup [.int 2, .int 1], .tup [.int 4, .int 1], .tup [.int 8, .int 1]])]
noncomputable def PT3 : List (D × D) := [
  (.tup [.str 3, .str 7, .tup [.tup [.str 1, .str 15]]], .lst [.tup [.int 0, .int 1], .tup [.int 1, .int 1], .tup [.int 0, .int 1], .tup [.int (-1), .int 6]]),
  (.tup [.str 3, .str 7, .tup [.tup [.str 1, .str 15]]], .lst [.tup [.int 0, .int 1], .tup [.int 1, .int 1], .tup [.int 0, .int 1], .tup [.int (-1), .int 6]]),
  (.tup [.str 3, .str 7, .tup [.tup [.str 1, .str 15]]], .lst [.tup [.int 0, .int 1], .tup [.int 1, .int 1], .tup [.int 0, .int 1], .tup [.int (-1), .int 6]]),
  (.tup [.str 3, .str 7, .tup [.tup [.str 1, .str 15]]], .lst [.tup [.int 0, .int 1], .tup [.int 1, .int 1], .tup [.int 0, .int 1], .tup [.int (-1), .int 6]])]
noncomputable def PT4 : List (D × D) := [
  (.tup [.str 3, .str 11, .tup [.tup [.str 5, .tup [.tup [.str 0, .int 1, .int 1], .tup [.str 6, .tup [.tup [.str 0, .int 1, .int 1], .tup [.str 1, .str 15]]]]]]], .lst [.tup [.int 0, .int 1], .tup [.int 1, .int 1], .tup [.int (-1), .int 2], .tup [.int 1, .int 3]]),
  (.tup [.str 3, .str 11, .tup [.tup [.str 5, .tup [.tup [.str 0, .int 1, .int 1], .tup [.str 6, .tup [.tup [.str 0, .int (-1), .int 1], .tup [.str 1, .str 15]]]]]]], .lst [.tup [.int 0, .int 1], .tup [.int (-1), .int 1], .tup [.int (-1), .int 2], .tup [.int (-1), .int 3]]),
  (.tup [.str 3, .str 11, .tup [.tup [.str 5, .tup [.tup [.str 0, .int 1, .int 1], .tup [.str 6, .tup [.tup [.str 0, .int 2, .int 1], .tup [.str 1, .str 15]]]]]]], .lst [.tup [.int 0, .int 1], .tup [.int 2, .int 1], .tup [.int (-2), .int 1], .tup [.int 8, .int 3]]),
  (.tup [.str 3, .str 11, .tup [.tup [.str 5, .tup [.tup [.str 0, .int 1, .int 1], .tup [.str 6, .tup [.tup [.str 0, .int (-2), .int 1], .tup [.str 1, .str 15]]]]]]], .lst [.tup [.int 0, .int 1], .tup [.int (-2), .int 1], .tup [.int (-2), .int 1], .tup [.int (-8), .int 3]])]
noncomputable def PT5 : List (D × D) := [
  (.tup [.str 2, .tup [.str 5, .tup [.tup [.str 0, .int 1, .int 1], .tup [.str 6, .tup [.tup [.str 0, .int 1, .int 1], .tup [.str 1, .str 15]]]]], .tup [.str 0, .int 1, .int 2]], .lst [.tup [.int 1, .int 1], .tup [.int 1, .int 2], .tup [.int (-1), .int 8], .tup [.int 1, .int 16]]),
  (.tup [.str 2, .tup [.str 5, .tup [.tup [.str 0, .int 1, .int 1], .tup [.str 6, .tup [.tup [.str 0, .int (-1), .int 1], .tup [.str 1, .str 15]]]]], .tup [.str 0, .int 1, .int 2]], .lst [.tup [.int 1, .int 1], .tup [.int (-1), .int 2], .tup [.int (-1), .int 8], .tup [.int (-1), .int 16]]),
  (.tup [.str 2, .tup [.str 5, .tup [.tup [.str 0, .int 1, .int 1], .tup [.str 6, .tup [.tup [.str 0, .int 2, .int 1], .tup [.str 1, .str 15]]]]], .tup [.str 0, .int 1, .int 2]], .lst [.tup [.int 1, .int 1], .tup [.int 1, .int 1], .tup [.int (-1), .int 2], .tup [.int 1, .int 2]]),
  (.tup [.str 2, .tup [.str 5, .tup [.tup [.str 0, .int 1, .int 1], .tup [.str 6, .tup [.tup [.str 0, .int (-2), .int 1], .tup [.str 1, .str 15]]]]], .tup [.str 0, .int 1, .int 2]], .lst [.tup [.int 1, .int 1], .tup [.int (-1), .int 1], .tup [.int (-1), .int 2], .tup [.int (-1), .int 2]])]
noncomputable def PT6 : List (D × D) := [
  (.tup [.str 6, .tup [.tup [.str 0, .int 1, .int 1], .tup [.str 1, .str 15]]], .lst [.tup [.int 0, .int 1], .tup [.int 1, .int 1], .tup [.int 0, .int 1], .tup [.int 0, .int 1]]),
  (.tup [.str 6, .tup [.tup [.str 0, .int (-1), .int 1], .tup [.str 1, .str 15]]], .lst [.tup [.int 0, .int 1], .tup [.int (-1), .int 1], .tup [.int 0, .int 1], .tup [.int 0, .int 1]]),
  (.tup [.str 6, .tup [.tup [.str 0, .int 2, .int 1], .tup [.str 1, .str 15]]], .lst [.tup [.int 0, .int 1], .tup [.int 2, .int 1], .tup [.int 0, .int 1], .tup [.int 0, .int 1]]),
  (.tup [.str 6, .tup [.tup [.str 0, .int (-2), .int 1], .tup [.str 1, .str 15]]], .lst [.tup [.int 0, .int 1], .tup [.int (-2), .int 1], .tup [.int 0, .int 1], .tup [.int 0, .int 1]])]
noncomputable def PT : List (D × D) := PT0 ++ (PT1 ++ (PT2 ++ (PT3 ++ (PT4 ++ (PT5 ++ PT6)))))
noncomputable def symX : D := .tup [.str 1, .str 15]
noncomputable def dTold (f : C) : C := cB p_law_told (lCons f (lCons (cK (.int 4)) lNil))
noncomputable def h1T : CB := tCmp .NotEq (dTold (cB p_t_sum (lCons (cLst (lCons (cV 0) (lCons (cV 1) lNil))) lNil))) (cComp (cB g_law_plus (lCons (cV 0) (lCons (cV 1) lNil))) [] (rZip (lCons (cV 2) (lCons (cV 3) lNil))))
noncomputable def h2B : B := bCons (kAs 5 (cB p_law_cauchy (lCons (cV 5) (lCons (cV 2) lNil)))) bNil
noncomputable def h2K : B := kFo 6 (sR (lCons (cBin .Sub (cV 4) (cK (.int 1))) lNil)) h2B
noncomputable def h2T : CB := tCmp .NotEq (dTold (cB p_t_pow (lCons (cV 0) (lCons (cB p_t_num (lCons (cV 4) (lCons (cK (.int 1)) lNil))) lNil)))) (cV 5)
noncomputable def h3C : C := cCmp .Eq (dTold (cB p_t_prod (lCons (cLst (lCons (cV 0) (lCons (cV 1) lNil))) lNil))) (cB p_law_cauchy (lCons (cV 2) (lCons (cV 3) lNil)))
noncomputable def no? : R Bool → Bool
  | .ok b => !b
  | _ => false
theorem no_is {x : R Bool} (h : no? x = true) : x = .ok false := by
  cases x with
  | ok b => cases b <;> first | rfl | cases h
  | rz k => cases h
  | st => cases h
noncomputable def ck1 (p q : D × D) (m : D) : Bool := no? (h1T [p.1, q.1, p.2, q.2, m, .no, .no])
noncomputable def ck2 (p : D × D) (b o : D) (m : Int) : Bool := match h2K [p.1, b, p.2, o, .int m, p.2, .no] with
  | .nx ρ => no? (h2T ρ)
  | _ => false
noncomputable def ck3 (p q : D × D) (m x y : D) : Bool := isV (h3C [p.1, q.1, p.2, q.2, m, x, y]) (.bool true)
noncomputable def p_qr : List D → R D := fnD 3 3 (b_law_quotient_right p_law_told p_law_cauchy)
noncomputable def quot (a b : D) : D := .tup [.str 6, .tup [a, .tup [.str 2, b, .tup [.str 0, .int (-1), .int 1]]]]
noncomputable def ckq (p q : D × D) : Bool := isV (p_qr [quot p.1 q.1, p.2, q.2]) (.bool true)
noncomputable def four : D → Bool
  | .lst [_, _, _, _] => true
  | _ => false
noncomputable def partOk (k : Nat) (j : Nat) (p : D × D) : Bool := isV (p_law_part [.int (k : Nat), (match [D.int 1, .int (-1), .int 2, .int (-2)][j]? with | some d => d | none => .none), symX]) p.1 && (isV (p_law_told [p.1, .int 4]) p.2 && four p.2)

theorem fo_shape (a b one o mm : D) : ∀ (ds : List D) (x y : D) (ρ' : List D), foD 6 h2B ds [a, b, one, o, mm, x, y] = .nx ρ' → ∃ x' y', ρ' = [a, b, one, o, mm, x', y'] := by
  intro ds
  induction ds with
  | nil => intro x y ρ' h; cases h; exact ⟨x, y, rfl⟩
  | cons d r ih =>
    intro x y ρ' h
    rw [foD] at h
    have e : h2B (setN [a, b, one, o, mm, x, y] 6 d) = rsOf (cB p_law_cauchy (lCons (cV 5) (lCons (cV 2) lNil)) [a, b, one, o, mm, x, d]) fun z => .nx [a, b, one, o, mm, z, d] := by
      show (match rsOf (cB p_law_cauchy (lCons (cV 5) (lCons (cV 2) lNil)) [a, b, one, o, mm, x, d]) (fun d' => RS.nx (setN [a, b, one, o, mm, x, d] 5 d')) with
        | .nx ρ' => bNil ρ'
        | x => x) = _
      cases cB p_law_cauchy (lCons (cV 5) (lCons (cV 2) lNil)) [a, b, one, o, mm, x, d] <;> rfl
    rw [e] at h
    cases hx : cB p_law_cauchy (lCons (cV 5) (lCons (cV 2) lNil)) [a, b, one, o, mm, x, d] with
    | ok z => rw [hx] at h; exact ih z d ρ' h
    | rz k => rw [hx] at h; cases h
    | st => rw [hx] at h; cases h
theorem deeds_ok {p q : D × D} {m : Int} (hl : four p.2 = true) (h1 : ∀ mm, ck1 p q mm = true) (h2 : ∀ b o, ck2 p b o m = true) (h3 : ∀ mm x y, ck3 p q mm x y = true) : p_law_deeds_right [p.1, q.1, p.2, q.2, .int m] = .ok (.bool true) := by
  obtain ⟨p1, p2⟩ := p
  obtain ⟨q1, q2⟩ := q
  dsimp only at *
  have hv : vget p2 = .ok p2 := by
    unfold four at hl
    split at hl
    · rfl
    · cases hl
  have e1 := no_is (h1 (.int m))
  have e2 := h2 q1 q2
  unfold ck2 at e2
  dsimp only at e1 e2
  split at e2
  · rename_i ρ' hρ
    have e3 := no_is e2
    obtain ⟨x, y, hs⟩ : ∃ x y, ρ' = [p1, q1, p2, q2, .int m, x, y] := by
      unfold h2K kFo at hρ
      cases hr : sR (lCons (cBin .Sub (cV 4) (cK (.int 1))) lNil) [p1, q1, p2, q2, .int m, p2, .no] with
      | ok ds => rw [hr] at hρ; exact fo_shape _ _ _ _ _ ds _ _ _ hρ
      | rz k => rw [hr] at hρ; cases hρ
      | st => rw [hr] at hρ; cases hρ
    subst hs
    have e4 := isV_is (h3 (.int m) x y)
    dsimp only at e4
    show retR (bCons (kIf h1T (bCons (kRet (cK (.bool false))) bNil) bNil) (bCons (kAs 5 (cV 2)) (bCons h2K (bCons (kIf h2T (bCons (kRet (cK (.bool false))) bNil) bNil) (bCons (kRet h3C) bNil)))) [p1, q1, p2, q2, .int m, .no, .no]) = _
    have f1 : kIf h1T (bCons (kRet (cK (.bool false))) bNil) bNil [p1, q1, p2, q2, .int m, .no, .no] = .nx [p1, q1, p2, q2, .int m, .no, .no] := by
      unfold kIf; rw [e1]; rfl
    have f2 : kAs 5 (cV 2) [p1, q1, p2, q2, .int m, .no, .no] = .nx [p1, q1, p2, q2, .int m, p2, .no] := by
      show rsOf (vget p2) _ = _
      rw [hv]; rfl
    have f3 : kIf h2T (bCons (kRet (cK (.bool false))) bNil) bNil [p1, q1, p2, q2, .int m, x, y] = .nx [p1, q1, p2, q2, .int m, x, y] := by
      unfold kIf; rw [e3]; rfl
    rw [bCons, f1]
    dsimp only
    rw [bCons, f2]
    dsimp only
    rw [bCons, hρ]
    dsimp only
    rw [bCons, f3]
    dsimp only
    rw [bCons, kRet, e4]
    rfl
  · cases e2

theorem app_all {α : Type} {f : α → Bool} {a b : List α} (ha : a.all f = true) (hb : b.all f = true) : (a ++ b).all f = true := by rw [List.all_append, ha, hb]; rfl
noncomputable def okP (k : Nat) (l : List (D × D)) : Bool := match l with
  | [p0, p1, p2, p3] => partOk k 0 p0 && (partOk k 1 p1 && (partOk k 2 p2 && partOk k 3 p3))
  | _ => false
end Mine
end
section
open PySem
namespace Mine
theorem okP_0 : okP 0 PT0 = true := by decide +kernel
theorem c1_0 (mm : D) : (PT0.all fun p => PT.all fun q => ck1 p q mm) = true := by kernel_rfl
theorem c2_0 (b o : D) : (PT0.all fun p => ck2 p b o 2 && ck2 p b o 3) = true := by kernel_rfl
theorem c3_0 (mm x y : D) : (PT0.all fun p => PT.all fun q => ck3 p q mm x y) = true := by kernel_rfl
theorem cq_0 : (PT0.all fun p => PT.all fun q => ckq p q) = true := by decide +kernel
theorem okP_1 : okP 1 PT1 = true := by decide +kernel
theorem c1_1 (mm : D) : (PT1.all fun p => PT.all fun q => ck1 p q mm) = true := by kernel_rfl
theorem c2_1 (b o : D) : (PT1.all fun p => ck2 p b o 2 && ck2 p b o 3) = true := by kernel_rfl
theorem c3_1 (mm x y : D) : (PT1.all fun p => PT.all fun q => ck3 p q mm x y) = true := by kernel_rfl
theorem cq_1 : (PT1.all fun p => PT.all fun q => ckq p q) = true := by decide +kernel
theorem okP_2 : okP 2 PT2 = true := by decide +kernel
theorem c1_2 (mm : D) : (PT2.all fun p => PT.all fun q => ck1 p q mm) = true := by kernel_rfl
theorem c2_2 (b o : D) : (PT2.all fun p => ck2 p b o 2 && ck2 p b o 3) = true := by kernel_rfl
theorem c3_2 (mm x y : D) : (PT2.all fun p => PT.all fun q => ck3 p q mm x y) = true := by kernel_rfl
theorem cq_2 : (PT2.all fun p => PT.all fun q => ckq p q) = true := by decide +kernel
theorem okP_3 : okP 3 PT3 = true := by decide +kernel
theorem c1_3 (mm : D) : (PT3.all fun p => PT.all fun q => ck1 p q mm) = true := by kernel_rfl
theorem c2_3 (b o : D) : (PT3.all fun p => ck2 p b o 2 && ck2 p b o 3) = true := by kernel_rfl
theorem c3_3 (mm x y : D) : (PT3.all fun p => PT.all fun q => ck3 p q mm x y) = true := by kernel_rfl
theorem cq_3 : (PT3.all fun p => PT.all fun q => ckq p q) = true := by decide +kernel
theorem okP_4 : okP 4 PT4 = true := by decide +kernel
theorem c1_4 (mm : D) : (PT4.all fun p => PT.all fun q => ck1 p q mm) = true := by kernel_rfl
theorem c2_4 (b o : D) : (PT4.all fun p => ck2 p b o 2 && ck2 p b o 3) = true := by kernel_rfl
theorem c3_4 (mm x y : D) : (PT4.all fun p => PT.all fun q => ck3 p q mm x y) = true := by kernel_rfl
theorem cq_4 : (PT4.all fun p => PT.all fun q => ckq p q) = true := by decide +kernel
theorem okP_5 : okP 5 PT5 = true := by decide +kernel
theorem c1_5 (mm : D) : (PT5.all fun p => PT.all fun q => ck1 p q mm) = true := by kernel_rfl
theorem c2_5 (b o : D) : (PT5.all fun p => ck2 p b o 2 && ck2 p b o 3) = true := by kernel_rfl
theorem c3_5 (mm x y : D) : (PT5.all fun p => PT.all fun q => ck3 p q mm x y) = true := by kernel_rfl
theorem cq_5 : (PT5.all fun p => PT.all fun q => ckq p q) = true := by decide +kernel
theorem okP_6 : okP 6 PT6 = true := by decide +kernel
theorem c1_6 (mm : D) : (PT6.all fun p => PT.all fun q => ck1 p q mm) = true := by kernel_rfl
theorem c2_6 (b o : D) : (PT6.all fun p => ck2 p b o 2 && ck2 p b o 3) = true := by kernel_rfl
theorem c3_6 (mm x y : D) : (PT6.all fun p => PT.all fun q => ck3 p q mm x y) = true := by kernel_rfl
theorem cq_6 : (PT6.all fun p => PT.all fun q => ckq p q) = true := by decide +kernel
theorem c1 (mm : D) : (PT.all fun p => PT.all fun q => ck1 p q mm) = true := app_all (c1_0 mm) (app_all (c1_1 mm) (app_all (c1_2 mm) (app_all (c1_3 mm) (app_all (c1_4 mm) (app_all (c1_5 mm) (c1_6 mm))))))
theorem c2 (b o : D) : (PT.all fun p => ck2 p b o 2 && ck2 p b o 3) = true := app_all (c2_0 b o) (app_all (c2_1 b o) (app_all (c2_2 b o) (app_all (c2_3 b o) (app_all (c2_4 b o) (app_all (c2_5 b o) (c2_6 b o))))))
theorem c3 (mm x y : D) : (PT.all fun p => PT.all fun q => ck3 p q mm x y) = true := app_all (c3_0 mm x y) (app_all (c3_1 mm x y) (app_all (c3_2 mm x y) (app_all (c3_3 mm x y) (app_all (c3_4 mm x y) (app_all (c3_5 mm x y) (c3_6 mm x y))))))
theorem cq : (PT.all fun p => PT.all fun q => ckq p q) = true := app_all cq_0 (app_all cq_1 (app_all cq_2 (app_all cq_3 (app_all cq_4 (app_all cq_5 cq_6)))))
end Mine
end
section
open PySem
namespace Mine
theorem vget_of {a b : D} (h : eqX a b = true) : vget b = .ok b := by
  cases b <;> first | rfl | (cases a <;> simp [eqX] at h)
theorem compD_int : ∀ l : List Int, compD (cB bInt (lCons (cV 0) lNil)) [] (ones (l.map .int)) = .ok (l.map .int)
  | [] => rfl
  | a :: r => by
    rw [List.map_cons, ones, compD, show cB bInt (lCons (cV 0) lNil) ([.int a] ++ []) = .ok (.int a) from rfl]
    dsimp only
    rw [compD_int r]
theorem short_map {l : List Int} {n : Nat} (h : l.length ≤ n) (hn : n < 1000) : shortL (l.map .int) = true := by
  unfold shortL
  exact Nat.ble_eq.mpr (by rw [List.length_map]; omega)

theorem e_pool {l : List Int} (hl : l.length ≤ 63) {a1 a2 a3 a4 a5 a6 a7 a8 a9 a10 : D} :
    kOwnL 1 (lCons (cComp (cB bInt (lCons (cV 0) lNil)) [] (rOne (sS (cSlTo (cV 0) (cK (.int 8)))))) (lCons (cK (.int 0)) lNil)) [.lst (l.map .int), a1, a2, a3, a4, a5, a6, a7, a8, a9, a10] =
      .nx [.lst (l.map .int), .own [.lst ((l.take 8).map .int), .int 0], a2, a3, a4, a5, a6, a7, a8, a9, a10] := by
  have h1 : cSlTo (cV 0) (cK (.int 8)) [.lst (l.map .int), a1, a2, a3, a4, a5, a6, a7, a8, a9, a10] = .ok (.lst ((l.take 8).map .int)) := by
    show (if shortL (l.map .int) = true then R.ok (D.lst ((l.map D.int).take 8)) else .st) = _
    rw [if_pos (short_map hl (by decide)), List.map_take]
  have hs : shortL ((l.take 8).map .int) = true := short_map (n := 63) (by rw [List.length_take]; omega) (by decide)
  have h2 : cComp (cB bInt (lCons (cV 0) lNil)) [] (rOne (sS (cSlTo (cV 0) (cK (.int 8))))) [.lst (l.map .int), a1, a2, a3, a4, a5, a6, a7, a8, a9, a10] = .ok (.lst ((l.take 8).map .int)) := by
    have h3 : rOne (sS (cSlTo (cV 0) (cK (.int 8)))) [.lst (l.map .int), a1, a2, a3, a4, a5, a6, a7, a8, a9, a10] = .ok (ones ((l.take 8).map .int)) := by
      unfold rOne sS
      rw [h1]
      show (if shortL ((l.take 8).map D.int) = true then R.ok ((l.take 8).map D.int) else .st).bind _ = _
      rw [if_pos hs]; rfl
    unfold cComp
    rw [h3]
    show compR _ [] _ = _
    unfold compR
    rw [compD_int]
    show mkL _ = _
    unfold mkL
    rw [if_pos hs]
  unfold kOwnL
  have h4 : lCons (cComp (cB bInt (lCons (cV 0) lNil)) [] (rOne (sS (cSlTo (cV 0) (cK (.int 8)))))) (lCons (cK (.int 0)) lNil) [.lst (l.map .int), a1, a2, a3, a4, a5, a6, a7, a8, a9, a10] = .ok [.lst ((l.take 8).map .int), .int 0] := by
    rw [lCons, h2]; rfl
  rw [h4]
  rfl

theorem draw_ok {l : List Int} (hl : l.length ≤ 63) (sp m : Nat) (hsp : sp < 1000) (hm : 0 < m) : ∃ d : Nat, d < m ∧ drawD (l.map .int) (sp : Nat) (m : Nat) = .ok (.int (d : Nat)) := by
  have hs := short_map hl (by decide)
  have hm0 : (((m : Nat) : Int) != 0) = true := by
    have : ((m : Nat) : Int) ≠ 0 := by omega
    simpa using this
  have fin : ∀ A : Int, ∃ d : Nat, d < m ∧ opD .Mod (.int A) (.int (m : Nat)) = .ok (.int (d : Nat)) := fun A => by
    have h1 := Int.emod_nonneg A (b := ((m : Nat) : Int)) (by omega)
    have h2 := Int.emod_lt_of_pos A (b := ((m : Nat) : Int)) (by omega)
    refine ⟨(A % (m : Nat)).toNat, by omega, ?_⟩
    simp only [opD, hm0, if_true]
    rw [Int.fmod_eq_emod_of_nonneg _ (by omega), Int.toNat_of_nonneg h1]
  have hT : drT (drR (l.map .int) (sp : Nat) (m : Nat)) = .ok (decide (((sp : Nat) : Int) < ((l.map D.int).length : Nat))) := by
    show ((if shortL (l.map D.int) = true then R.ok (D.int ((l.map D.int).length : Nat)) else .st).bind fun b => cpD .Lt (.int (sp : Nat)) b) = _
    rw [if_pos hs]; rfl
  unfold drawD
  rw [hT]
  show ∃ d : Nat, d < m ∧ (bif decide (((sp : Nat) : Int) < ((l.map D.int).length : Nat)) then _ else _) = _
  by_cases hlt : sp < l.length
  · have hd : decide (((sp : Nat) : Int) < ((l.map D.int).length : Nat)) = true := by rw [List.length_map]; simpa using hlt
    rw [hd]
    obtain ⟨a, ha⟩ : ∃ a, l[sp]? = some a := ⟨_, List.getElem?_eq_getElem hlt⟩
    obtain ⟨d, h1, h2⟩ := fin (absI a)
    refine ⟨d, h1, ?_⟩
    have hi : itD (.lst (l.map .int)) (.int (sp : Nat)) = .ok (.int a) := by
      show getD' (l.map D.int) sp = _
      unfold getD'
      rw [show Nat.blt sp 1000 = true from Nat.ble_eq.mpr (by omega), List.getElem?_map, ha]; rfl
    show (((itD (.lst (l.map .int)) (.int (sp : Nat))).bind fun y => (R.ok [y])).bind bAbs).bind (fun x => opD .Mod x (.int (m : Nat))) = _
    rw [hi]
    exact h2
  · have hd : decide (((sp : Nat) : Int) < ((l.map D.int).length : Nat)) = false := by rw [List.length_map]; simpa using hlt
    rw [hd]
    obtain ⟨d, h1, h2⟩ := fin (4 * ((sp : Nat) : Int) + 10)
    refine ⟨d, h1, ?_⟩
    show ((opD .Mult (.int 4) (.int (sp : Nat))).bind fun x => opD .Add x (.int 10)).bind (fun x => opD .Mod x (.int (m : Nat))) = _
    rw [mulS (a := 4) (by decide)]
    exact h2
end Mine
end
section
open PySem
namespace Mine
noncomputable def tb : List D := [.int 1, .int (-1), .int 2, .int (-2)]
theorem e_drN {xs : List D} {d : Int} (h : drawD xs 0 2 = .ok (.int d)) {a0 a2 a3 a4 a5 a6 a7 a8 a9 a10 : D} :
    kDrN 2 3 2 [a0, .own [.lst xs, .int 0], a2, a3, a4, a5, a6, a7, a8, a9, a10] = .nx [a0, .own [.lst xs, .int (0 + 1)], .int d, .own [], a4, a5, a6, a7, a8, a9, a10] := by
  show (match drawD xs 0 2 with | .ok (.int d) => _ | _ => _) = _
  rw [h]; rfl
theorem e_dr {xs : List D} {sp d : Int} (h : drawD xs sp 7 = .ok (.int d)) {a0 a2 a3 a4 a5 a6 a7 a8 a9 a10 : D} :
    kDr 5 7 [a0, .own [.lst xs, .int sp], a2, a3, a4, a5, a6, a7, a8, a9, a10] = .nx [a0, .own [.lst xs, .int (sp + 1)], a2, a3, a4, .int d, a6, a7, a8, a9, a10] := by
  show (match drawD xs sp 7 with | .ok (.int d) => _ | _ => _) = _
  rw [h]; rfl
theorem e_dr2 {xs : List D} {sp d : Int} (h : drawD xs sp 2 = .ok (.int d)) {a0 a2 a3 a4 a5 a6 a7 a8 a9 a10 : D} :
    kDr2 6 2 2 [a0, .own [.lst xs, .int sp], a2, a3, a4, a5, a6, a7, a8, a9, a10] = .nx [a0, .own [.lst xs, .int (sp + 1)], a2, a3, a4, a5, .int (2 + d), a7, a8, a9, a10] := by
  show (match drawD xs sp 2 with | .ok (.int d) => _ | _ => _) = _
  rw [h]; rfl
theorem e_drA {xs l : List D} {sp k : Int} {j : Nat} {cd : D} (h : drawD xs sp 4 = .ok (.int (j : Nat))) (hj : getD' tb j = .ok cd) (hl : shortL l = true) {a0 a2 a4 a6 a7 a8 a9 a10 : D} :
    kDrA 3 5 4 [.int 1, .int (-1), .int 2, .int (-2)] [a0, .own [.lst xs, .int sp], a2, .own l, a4, .int k, a6, a7, a8, a9, a10] = .nx [a0, .own [.lst xs, .int (sp + 1)], a2, .own (l ++ [.tup [.int k, cd]]), a4, .int k, a6, a7, a8, a9, a10] := by
  show (match drawD xs sp 4 with | .ok (.int d) => _ | _ => _) = _
  rw [h]
  show (match D.own l, R.ok (D.int k), getD' tb j with | .own l, .ok a, .ok b => _ | _, _, _ => _) = _
  rw [hj]
  show (if shortL l = true then _ else _) = _
  rw [if_pos hl]; rfl

noncomputable def loopB : B := bCons (kDr 5 7) (bCons (kDrA 3 5 4 [.int 1, .int (-1), .int 2, .int (-2)]) bNil)
theorem e_loop {xs : List D} {k1 k2 : Int} {j1 j2 : Nat} {c1 c2 : D} (h1 : drawD xs (0 + 1) 7 = .ok (.int k1)) (h2 : drawD xs (0 + 1 + 1) 4 = .ok (.int (j1 : Nat))) (h3 : drawD xs (0 + 1 + 1 + 1) 7 = .ok (.int k2)) (h4 : drawD xs (0 + 1 + 1 + 1 + 1) 4 = .ok (.int (j2 : Nat)))
    (hj1 : getD' tb j1 = .ok c1) (hj2 : getD' tb j2 = .ok c2) {a0 a2 a4 a5 a6 a7 a8 a9 a10 : D} :
    kFo 4 (sR (lCons (cK (.int 2)) lNil)) loopB [a0, .own [.lst xs, .int (0 + 1)], a2, .own [], a4, a5, a6, a7, a8, a9, a10] = .nx [a0, .own [.lst xs, .int (0 + 1 + 1 + 1 + 1 + 1)], a2, .own [.tup [.int k1, c1], .tup [.int k2, c2]], .int (0 + 1), .int k2, a6, a7, a8, a9, a10] := by
  have t1 : loopB [a0, .own [.lst xs, .int (0 + 1)], a2, .own [], .int 0, a5, a6, a7, a8, a9, a10] = .nx [a0, .own [.lst xs, .int (0 + 1 + 1 + 1)], a2, .own [.tup [.int k1, c1]], .int 0, .int k1, a6, a7, a8, a9, a10] := by
    unfold loopB
    rw [bCons, e_dr h1]
    dsimp only
    rw [bCons, e_drA h2 hj1 rfl]
    rfl
  have t2 : loopB [a0, .own [.lst xs, .int (0 + 1 + 1 + 1)], a2, .own [.tup [.int k1, c1]], .int (0 + 1), .int k1, a6, a7, a8, a9, a10] = .nx [a0, .own [.lst xs, .int (0 + 1 + 1 + 1 + 1 + 1)], a2, .own [.tup [.int k1, c1], .tup [.int k2, c2]], .int (0 + 1), .int k2, a6, a7, a8, a9, a10] := by
    unfold loopB
    rw [bCons, e_dr h3]
    dsimp only
    rw [bCons, e_drA h4 hj2 rfl]
    rfl
  show foD 4 loopB [.int 0, .int (0 + 1)] _ = _
  rw [foD]
  show (match loopB [a0, .own [.lst xs, .int (0 + 1)], a2, .own [], .int 0, a5, a6, a7, a8, a9, a10] with | .nx ρ' => foD 4 loopB [.int (0 + 1)] ρ' | .rt d => .rt d | _ => .st) = _
  rw [t1]
  dsimp only
  rw [foD]
  show (match loopB [a0, .own [.lst xs, .int (0 + 1 + 1 + 1)], a2, .own [.tup [.int k1, c1]], .int (0 + 1), .int k1, a6, a7, a8, a9, a10] with | .nx ρ' => foD 4 loopB [] ρ' | .rt d => .rt d | _ => .st) = _
  rw [t2]
  rfl

theorem partOk_is {k j : Nat} {p : D × D} (h : partOk k j p = true) : p_law_part [.int (k : Nat), (match [D.int 1, .int (-1), .int 2, .int (-2)][j]? with | some d => d | none => .none), symX] = .ok p.1 ∧ p_law_told [p.1, .int 4] = .ok p.2 ∧ four p.2 = true ∧ vget p.1 = .ok p.1 ∧ vget p.2 = .ok p.2 := by
  unfold partOk at h
  rw [Bool.and_eq_true, Bool.and_eq_true] at h
  obtain ⟨h1, h2, h3⟩ := h
  refine ⟨isV_is h1, isV_is h2, h3, ?_, ?_⟩
  · unfold isV at h1
    split at h1
    · exact vget_of h1
    · cases h1
  · unfold four at h3
    split at h3
    · rename_i q; rw [q]; rfl
    · cases h3
theorem part_of (k j : Nat) (hk : k < 7) (hj : j < 4) : ∃ p c, p ∈ PT ∧ getD' tb j = .ok c ∧ vget c = .ok c ∧ p_law_part [.int (k : Nat), c, symX] = .ok p.1 ∧ p_law_told [p.1, .int 4] = .ok p.2 ∧ four p.2 = true ∧ vget p.1 = .ok p.1 ∧ vget p.2 = .ok p.2 := by
  have go : ∀ (k : Nat) (l : List (D × D)), okP k l = true → (∀ p ∈ l, p ∈ PT) → ∃ p c, p ∈ PT ∧ getD' tb j = .ok c ∧ vget c = .ok c ∧ p_law_part [.int (k : Nat), c, symX] = .ok p.1 ∧ p_law_told [p.1, .int 4] = .ok p.2 ∧ four p.2 = true ∧ vget p.1 = .ok p.1 ∧ vget p.2 = .ok p.2 := fun k l h hm => by
    unfold okP at h
    split at h
    · rename_i p0 p1 p2 p3
      simp only [Bool.and_eq_true] at h
      obtain ⟨h0, h1, h2, h3⟩ := h
      have hj' : j = 0 ∨ j = 1 ∨ j = 2 ∨ j = 3 := by omega
      rcases hj' with rfl | rfl | rfl | rfl
      · exact ⟨p0, .int 1, hm _ (by simp), rfl, rfl, partOk_is h0⟩
      · exact ⟨p1, .int (-1), hm _ (by simp), rfl, rfl, partOk_is h1⟩
      · exact ⟨p2, .int 2, hm _ (by simp), rfl, rfl, partOk_is h2⟩
      · exact ⟨p3, .int (-2), hm _ (by simp), rfl, rfl, partOk_is h3⟩
    · cases h
  have hk' : k = 0 ∨ k = 1 ∨ k = 2 ∨ k = 3 ∨ k = 4 ∨ k = 5 ∨ k = 6 := by omega
  rcases hk' with rfl | rfl | rfl | rfl | rfl | rfl | rfl
  · exact go 0 PT0 okP_0 fun p h => by unfold PT; simp only [List.mem_append]; exact .inl h
  · exact go 1 PT1 okP_1 fun p h => by unfold PT; simp only [List.mem_append]; exact .inr (.inl h)
  · exact go 2 PT2 okP_2 fun p h => by unfold PT; simp only [List.mem_append]; exact .inr (.inr (.inl h))
  · exact go 3 PT3 okP_3 fun p h => by unfold PT; simp only [List.mem_append]; exact .inr (.inr (.inr (.inl h)))
  · exact go 4 PT4 okP_4 fun p h => by unfold PT; simp only [List.mem_append]; exact .inr (.inr (.inr (.inr (.inl h))))
  · exact go 5 PT5 okP_5 fun p h => by unfold PT; simp only [List.mem_append]; exact .inr (.inr (.inr (.inr (.inr (.inl h)))))
  · exact go 6 PT6 okP_6 fun p h => by unfold PT; simp only [List.mem_append]; exact .inr (.inr (.inr (.inr (.inr (.inr h)))))
theorem all2 {f : D × D → D × D → Bool} (h : (PT.all fun p => PT.all fun q => f p q) = true) {p q : D × D} (hp : p ∈ PT) (hq : q ∈ PT) : f p q = true := List.all_eq_true.mp (List.all_eq_true.mp h p hp) q hq
theorem all1 {f : D × D → Bool} (h : PT.all f = true) {p : D × D} (hp : p ∈ PT) : f p = true := List.all_eq_true.mp h p hp

noncomputable def restB : B := bCons (kFz 3) (bCons (kUn 7 8 (cComp (cB p_law_part (lCons (cV 0) (lCons (cV 1) (lCons (cB p_t_sym (lCons (cK (.str 15)) lNil)) lNil)))) [] (rTwo (sS (cV 3))))) (bCons (kMu 9 10 (cB p_law_told (lCons (cV 7) (lCons (cK (.int 4)) lNil))) (cB p_law_told (lCons (cV 8) (lCons (cK (.int 4)) lNil)))) (bCons (kIf (tOr (tCmp .NotEq (cB bLen (lCons (cV 9) lNil)) (cK (.int 4))) (tOr (tCmp .NotEq (cB bLen (lCons (cV 10) lNil)) (cK (.int 4))) tF)) (bCons (kRet (cK (.bool false))) bNil) bNil) (bCons (kIf (tCmp .Eq (cV 2) (cK (.int 0))) (bCons (kRet (cB p_law_deeds_right (lCons (cV 7) (lCons (cV 8) (lCons (cV 9) (lCons (cV 10) (lCons (cV 6) lNil))))))) bNil) bNil) (bCons (kRetQ p_qr (lCons (cB p_t_quotient (lCons (cV 7) (lCons (cV 8) lNil))) (lCons (cV 9) (lCons (cV 10) lNil)))) bNil)))))
theorem rest_ok {p q : D × D} {c1 c2 a0 pl a4 a5 : D} {d0 k1 k2 mm : Int} (hp1 : p_law_part [.int k1, c1, symX] = .ok p.1) (hq1 : p_law_part [.int k2, c2, symX] = .ok q.1) (hp2 : p_law_told [p.1, .int 4] = .ok p.2) (hq2 : p_law_told [q.1, .int 4] = .ok q.2)
    (vc1 : vget c1 = .ok c1) (vc2 : vget c2 = .ok c2) (fp : four p.2 = true) (fq : four q.2 = true) (vp1 : vget p.1 = .ok p.1) (vq1 : vget q.1 = .ok q.1) (vp2 : vget p.2 = .ok p.2) (vq2 : vget q.2 = .ok q.2)
    (hd : p_law_deeds_right [p.1, q.1, p.2, q.2, .int mm] = .ok (.bool true)) (hqr : p_qr [quot p.1 q.1, p.2, q.2] = .ok (.bool true)) :
    restB [a0, pl, .int d0, .own [.tup [.int k1, c1], .tup [.int k2, c2]], a4, a5, .int mm, .no, .no, .no, .no] = .rt (.bool true) := by
  obtain ⟨p1, p2⟩ := p
  obtain ⟨q1, q2⟩ := q
  dsimp only at *
  have s1 : (kUn 7 8 (cComp (cB p_law_part (lCons (cV 0) (lCons (cV 1) (lCons (cB p_t_sym (lCons (cK (.str 15)) lNil)) lNil)))) [] (rTwo (sS (cV 3))))) [a0, pl, .int d0, .lst [.tup [.int k1, c1], .tup [.int k2, c2]], a4, a5, .int mm, .no, .no, .no, .no] = .nx [a0, pl, .int d0, .lst [.tup [.int k1, c1], .tup [.int k2, c2]], a4, a5, .int mm, p1, q1, .no, .no] := by
    have g1 : ∀ (k : Int) (c : D), vget c = .ok c → cB p_law_part (lCons (cV 0) (lCons (cV 1) (lCons (cB p_t_sym (lCons (cK (.str 15)) lNil)) lNil))) ([.int k, c] ++ []) = p_law_part [.int k, c, symX] := fun k c hc => by
      have ht : p_t_sym [.str 15] = .ok symX := rfl
      show ((R.ok (D.int k)).bind fun a => (((vget c).bind fun b => ((p_t_sym [.str 15]).bind fun z => R.ok [z]).bind fun l => R.ok (b :: l))).bind fun l => R.ok (a :: l)).bind p_law_part = _
      rw [hc, ht]; rfl
    have g2 : rTwo (sS (cV 3)) [a0, pl, .int d0, .lst [.tup [.int k1, c1], .tup [.int k2, c2]], a4, a5, .int mm, .no, .no, .no, .no] = .ok [[.int k1, c1], [.int k2, c2]] := rfl
    unfold kUn cComp
    rw [g2]
    dsimp only
    unfold compR
    rw [show pick _ [] = [] from rfl, compD, g1 k1 c1 vc1, hp1]
    dsimp only
    rw [compD, g1 k2 c2 vc2, hq1]
    rfl
  have s2 : (kMu 9 10 (cB p_law_told (lCons (cV 7) (lCons (cK (.int 4)) lNil))) (cB p_law_told (lCons (cV 8) (lCons (cK (.int 4)) lNil)))) [a0, pl, .int d0, .lst [.tup [.int k1, c1], .tup [.int k2, c2]], a4, a5, .int mm, p1, q1, .no, .no] = .nx [a0, pl, .int d0, .lst [.tup [.int k1, c1], .tup [.int k2, c2]], a4, a5, .int mm, p1, q1, p2, q2] := by
    have t1 : (lCons (cB p_law_told (lCons (cV 7) (lCons (cK (.int 4)) lNil))) (lCons (cB p_law_told (lCons (cV 8) (lCons (cK (.int 4)) lNil))) lNil)) [a0, pl, .int d0, .lst [.tup [.int k1, c1], .tup [.int k2, c2]], a4, a5, .int mm, p1, q1, .no, .no] = .ok [p2, q2] := by
      show ((((vget p1).bind fun a => R.ok (a :: [D.int 4])).bind p_law_told).bind fun a => (((((vget q1).bind fun a => R.ok (a :: [D.int 4])).bind p_law_told).bind fun a => R.ok (a :: []))).bind fun l => R.ok (a :: l)) = _
      rw [vp1, vq1]
      show ((p_law_told [p1, .int 4]).bind fun a => ((p_law_told [q1, .int 4]).bind fun a => R.ok (a :: [])).bind fun l => R.ok (a :: l)) = _
      rw [hp2, hq2]; rfl
    unfold kMu
    rw [t1]; rfl
  have s3 : (kIf (tOr (tCmp .NotEq (cB bLen (lCons (cV 9) lNil)) (cK (.int 4))) (tOr (tCmp .NotEq (cB bLen (lCons (cV 10) lNil)) (cK (.int 4))) tF)) (bCons (kRet (cK (.bool false))) bNil) bNil) [a0, pl, .int d0, .lst [.tup [.int k1, c1], .tup [.int k2, c2]], a4, a5, .int mm, p1, q1, p2, q2] = .nx [a0, pl, .int d0, .lst [.tup [.int k1, c1], .tup [.int k2, c2]], a4, a5, .int mm, p1, q1, p2, q2] := by
    unfold four at fp fq
    split at fp
    · split at fq
      · rfl
      · cases fq
    · cases fp
  have s4 : (kIf (tCmp .Eq (cV 2) (cK (.int 0))) (bCons (kRet (cB p_law_deeds_right (lCons (cV 7) (lCons (cV 8) (lCons (cV 9) (lCons (cV 10) (lCons (cV 6) lNil))))))) bNil) bNil) [a0, pl, .int d0, .lst [.tup [.int k1, c1], .tup [.int k2, c2]], a4, a5, .int mm, p1, q1, p2, q2] = bif decide (d0 = 0) then .rt (.bool true) else .nx [a0, pl, .int d0, .lst [.tup [.int k1, c1], .tup [.int k2, c2]], a4, a5, .int mm, p1, q1, p2, q2] := by
    have l5 : (lCons (cV 7) (lCons (cV 8) (lCons (cV 9) (lCons (cV 10) (lCons (cV 6) lNil))))) [a0, pl, .int d0, .lst [.tup [.int k1, c1], .tup [.int k2, c2]], a4, a5, .int mm, p1, q1, p2, q2] = .ok [p1, q1, p2, q2, .int mm] := by
      show ((vget p1).bind fun a => ((vget q1).bind fun b => ((vget p2).bind fun c => ((vget q2).bind fun d => R.ok [d, .int mm]).bind fun l => R.ok (c :: l)).bind fun l => R.ok (b :: l)).bind fun l => R.ok (a :: l)) = _
      rw [vp1, vq1, vp2, vq2]; rfl
    show (bif decide (d0 = 0) then bCons (kRet (cB p_law_deeds_right (lCons (cV 7) (lCons (cV 8) (lCons (cV 9) (lCons (cV 10) (lCons (cV 6) lNil))))))) bNil _ else _) = _
    cases decide (d0 = 0) with
    | false => rfl
    | true =>
      show bCons (kRet (cB p_law_deeds_right _)) bNil _ = _
      rw [bCons, kRet, cB, l5]
      show (match rsOf (p_law_deeds_right [p1, q1, p2, q2, .int mm]) .rt with | .nx ρ' => bNil ρ' | x => x) = _
      rw [hd]; rfl
  have s5 : kRetQ p_qr (lCons (cB p_t_quotient (lCons (cV 7) (lCons (cV 8) lNil))) (lCons (cV 9) (lCons (cV 10) lNil))) [a0, pl, .int d0, .lst [.tup [.int k1, c1], .tup [.int k2, c2]], a4, a5, .int mm, p1, q1, p2, q2] = .rt (.bool true) := by
    have tq : p_t_quotient [p1, q1] = .ok (quot p1 q1) := by
      show retR (bCons (kRet (cTup (lCons (cK (.str 6)) (lCons (cTup (lCons (cV 0) (lCons (cTup (lCons (cK (.str 2)) (lCons (cV 1) (lCons (cK (.tup [.str 0, .int (-1), .int 1])) lNil)))) lNil))) lNil)))) bNil [p1, q1]) = _
      rw [bCons, kRet]
      have : (cTup (lCons (cK (.str 6)) (lCons (cTup (lCons (cV 0) (lCons (cTup (lCons (cK (.str 2)) (lCons (cV 1) (lCons (cK (.tup [.str 0, .int (-1), .int 1])) lNil)))) lNil))) lNil))) [p1, q1] = .ok (quot p1 q1) := by
        have i1 : (cTup (lCons (cK (.str 2)) (lCons (cV 1) (lCons (cK (.tup [.str 0, .int (-1), .int 1])) lNil)))) [p1, q1] = .ok (.tup [.str 2, q1, .tup [.str 0, .int (-1), .int 1]]) := by
          show (((vget q1).bind fun b => R.ok [b, .tup [.str 0, .int (-1), .int 1]]).bind fun l => R.ok (D.str 2 :: l)).bind mkT = _
          rw [vq1]; rfl
        have i2 : (cTup (lCons (cV 0) (lCons (cTup (lCons (cK (.str 2)) (lCons (cV 1) (lCons (cK (.tup [.str 0, .int (-1), .int 1])) lNil)))) lNil))) [p1, q1] = .ok (.tup [p1, .tup [.str 2, q1, .tup [.str 0, .int (-1), .int 1]]]) := by
          show ((vget p1).bind fun a => (((cTup (lCons (cK (.str 2)) (lCons (cV 1) (lCons (cK (.tup [.str 0, .int (-1), .int 1])) lNil)))) [p1, q1]).bind fun b => R.ok [b]).bind fun l => R.ok (a :: l)).bind mkT = _
          rw [i1, vp1]; rfl
        show ((((cTup (lCons (cV 0) (lCons (cTup (lCons (cK (.str 2)) (lCons (cV 1) (lCons (cK (.tup [.str 0, .int (-1), .int 1])) lNil)))) lNil))) [p1, q1]).bind fun b => R.ok [b]).bind (fun l => R.ok (D.str 6 :: l))).bind mkT = _
        rw [i2]; rfl
      exact (congrArg (fun r => retR (bCons (kRet (fun _ => r)) bNil [p1, q1])) this).trans rfl
    have l3 : (lCons (cB p_t_quotient (lCons (cV 7) (lCons (cV 8) lNil))) (lCons (cV 9) (lCons (cV 10) lNil))) [a0, pl, .int d0, .lst [.tup [.int k1, c1], .tup [.int k2, c2]], a4, a5, .int mm, p1, q1, p2, q2] = .ok [quot p1 q1, p2, q2] := by
      show (((vget p1).bind fun a => ((vget q1).bind fun b => R.ok [b]).bind fun l => R.ok (a :: l)).bind p_t_quotient).bind (fun x => ((vget p2).bind fun c => ((vget q2).bind fun d => R.ok [d]).bind fun l => R.ok (c :: l)).bind fun l => R.ok (x :: l)) = _
      rw [vp1, vq1, vp2, vq2]
      show (p_t_quotient [p1, q1]).bind _ = _
      rw [tq]; rfl
    unfold kRetQ
    rw [l3]
    show (match p_qr [quot p1 q1, p2, q2] with | .ok (.bool b) => RS.rt (.bool b) | _ => .st) = _
    rw [hqr]
  unfold restB
  rw [bCons, show kFz 3 [a0, pl, .int d0, .own [.tup [.int k1, c1], .tup [.int k2, c2]], a4, a5, .int mm, .no, .no, .no, .no] = .nx [a0, pl, .int d0, .lst [.tup [.int k1, c1], .tup [.int k2, c2]], a4, a5, .int mm, .no, .no, .no, .no] from rfl]
  dsimp only
  rw [bCons, s1]
  dsimp only
  rw [bCons, s2]
  dsimp only
  rw [bCons, s3]
  dsimp only
  rw [bCons, s4]
  cases decide (d0 = 0) with
  | true => rfl
  | false =>
    show bCons (kRetQ p_qr _) bNil _ = _
    rw [bCons, s5]

theorem law_plain (l : List Int) (hl : l.length ≤ 63) : b_law p_law_part p_t_sym p_law_told p_law_deeds_right p_t_quotient p_qr ([.lst (l.map .int)] ++ nos 10) = .rt (.bool true) := by
  have hl8 : (l.take 8).length ≤ 63 := by rw [List.length_take]; omega
  obtain ⟨d0, _, h0⟩ := draw_ok hl8 0 2 (by decide) (by decide)
  obtain ⟨k1, hk1, h1⟩ := draw_ok hl8 1 7 (by decide) (by decide)
  obtain ⟨j1, hj1, h2⟩ := draw_ok hl8 2 4 (by decide) (by decide)
  obtain ⟨k2, hk2, h3⟩ := draw_ok hl8 3 7 (by decide) (by decide)
  obtain ⟨j2, hj2, h4⟩ := draw_ok hl8 4 4 (by decide) (by decide)
  obtain ⟨d5, hd5, h5⟩ := draw_ok hl8 5 2 (by decide) (by decide)
  obtain ⟨p, c1', hp, gp, vp, a1, a2, a3, a4, a5⟩ := part_of k1 j1 hk1 hj1
  obtain ⟨q, c2', hq, gq, vq, b1, b2, b3, b4, b5⟩ := part_of k2 j2 hk2 hj2
  have hdeed : ∀ m : Int, (m = 2 ∨ m = 3) → p_law_deeds_right [p.1, q.1, p.2, q.2, .int m] = .ok (.bool true) := fun m hm => by
    have e2 := fun b o => all1 (c2 b o) hp
    refine deeds_ok a3 (fun mm => all2 (c1 mm) hp hq) (fun b o => ?_) fun mm x y => all2 (c3 mm x y) hp hq
    have := e2 b o
    rw [Bool.and_eq_true] at this
    rcases hm with rfl | rfl
    · exact this.1
    · exact this.2
  have hqr : p_qr [quot p.1 q.1, p.2, q.2] = .ok (.bool true) := isV_is (all2 cq hp hq)
  have hm : ((2 : Int) + (d5 : Nat)) = 2 ∨ ((2 : Int) + (d5 : Nat)) = 3 := by omega
  have hrest := rest_ok (a0 := .lst (l.map .int)) (pl := .own [.lst ((l.take 8).map .int), .int (0 + 1 + 1 + 1 + 1 + 1 + 1)]) (a4 := .int (0 + 1)) (a5 := .int (k2 : Nat)) (d0 := (d0 : Nat)) (k1 := (k1 : Nat)) (k2 := (k2 : Nat)) (mm := 2 + (d5 : Nat)) a1 b1 a2 b2 vp vq a3 b3 a4 b4 a5 b5 (hdeed _ hm) hqr
  show bCons (kOwnL 1 (lCons (cComp (cB bInt (lCons (cV 0) lNil)) [] (rOne (sS (cSlTo (cV 0) (cK (.int 8)))))) (lCons (cK (.int 0)) lNil))) (bCons (kDrN 2 3 2) (bCons (kFo 4 (sR (lCons (cK (.int 2)) lNil)) loopB) (bCons (kDr2 6 2 2) restB))) [.lst (l.map .int), .no, .no, .no, .no, .no, .no, .no, .no, .no, .no] = _
  rw [bCons, e_pool hl]
  dsimp only
  rw [bCons, e_drN h0]
  dsimp only
  rw [bCons, e_loop (k1 := (k1 : Nat)) (k2 := (k2 : Nat)) (j1 := j1) (j2 := j2) h1 h2 h3 h4 gp gq]
  dsimp only
  have h5' : drawD ((l.take 8).map .int) (0 + 1 + 1 + 1 + 1 + 1) 2 = .ok (.int (d5 : Nat)) := h5
  rw [bCons, e_dr2 h5']
  exact hrest
end Mine
end
section
open PySem PySem.W PyProof.Rows PySem.Calls PySem.Spec
set_option maxRecDepth 100000
namespace Mine
theorem law_call {G : Gl} {C f N : Addr} {mN : Str → Option Value} (pg : PG G C f N mN) (hD : LawDraw G) {fa : Addr} (hd : ∃ o pm code doc, G.hB.get? fa = some o ∧ o.data = .func (docDef (nm "law") (fArgs (stAt 78)) (fBody (stAt 78)) (fScope (stAt 78)) pm code doc) ∧ G.hB.CodeRec code (nm "law"))
    {s : Shared} (hs : s.heap = G.hB) {v : Value} {l : List Int} (hl : l.length ≤ 63) (r : Rep (fun _ => False) s.heap v (.lst (l.map .int))) :
    wpAny (model G.prog G.w) callerA (call (.ref fa) [v]) (fun v s' => v = .bool true ∧ s' = { s with heap := s'.heap, toks := s'.toks } ∧ s.heap.StaysIn s'.heap) (fun _ _ => False) s := by
  refine enterG (n := 27) (A := callerA) (outer := []) (ps := [nm "script"]) (locs := [nm "pool", nm "form", nm "pairs", nm "turn", nm "kind", nm "many", nm "a", nm "b", nm "one", nm "other"]) (O := fun _ => False) (ds := [.lst (l.map .int)]) pg.gx.ok hd rfl rfl rfl (fun vs h => match vs, h with | [_], _ => fun _ _ _ _ => rfl) (by decide) (by decide) rfl trivial rfl (by decide) (by decide) (fun b o e => by rw [hs]; exact e) (fun _ h => h.elim) (fun _ h => h.elim) (.cons r .nil) rfl ?_
  intro c' env L cd O' s₁ henv hc' co' fr eq sp
  subst henv
  have ha : c'.A = callerA.deeper (envOfC (nm "law") (fScope (stAt 78)) L fa cd) := by rw [hc']
  have ho : c'.outer = [] := by rw [hc']
  have hh : c'.h₀ = G.hB := by rw [hc']; exact hs
  have K := body_law (n := 26) pg.gx.ok ((sp_law_part pg).le (by decide)) ((sp_t_sym pg).le (by decide)) ((sp_law_told pg).le (by decide)) ((sp_law_deeds_right pg).le (by decide)) ((sp_t_quotient pg).le (by decide)) (sp_law_quotient_right pg) hD c' L fa cd co' (co'.le (by decide)) ho hh fr _ _ _ _ sp
  rw [ha] at K
  refine K _ _ ?_
  have E : b_law p_law_part p_t_sym p_law_told p_law_deeds_right p_t_quotient (fnD 3 3 (b_law_quotient_right p_law_told p_law_cauchy)) ([.lst (l.map .int)] ++ nos 10) = .rt (.bool true) := law_plain l hl
  refine ⟨fun ρ' e => ?_, fun d e v s' eq' ⟨m, F⟩ rv => ?_, fun k e => ?_, fun e => ?_⟩
  · exact absurd (E.symm.trans e) (by nofun)
  · cases E.symm.trans e
    cases rv
    refine ⟨rfl, by rw [eq', eq], fun b o q => F.keep b o ?_⟩
    rw [hh, ← hs]; exact q
  · exact absurd (E.symm.trans e) (by nofun)
  · exact absurd (E.symm.trans e) (by nofun)
end Mine
end
section
open PySem PySem.W PyProof.Rows PySem.Calls PySem.Spec
set_option maxRecDepth 100000
namespace Mine
noncomputable def ixOf : Fn → Nat
  | .gcd_ => 3
  | .bits_of_ => 4
  | .root_of_ => 5
  | .rat_ => 10
  | .radd_ => 11
  | .rsub_ => 12
  | .rmul_ => 13
  | .rdiv_ => 14
  | .rinv_ => 15
  | .rpower_ => 16
  | .is_vast_ => 17
  | .rcompare_ => 18
  | .cut_ => 20
  | .let_ => 21
  | .sadd_ => 22
  | .sscale_ => 23
  | .mixed_ => 24
  | .smul_ => 25
  | .sinverse_ => 26
  | .sderive_ => 27
  | .sintegrate_ => 28
  | .need_begin_ => 29
  | .sexp_ => 30
  | .slog_ => 31
  | .ssin_cos_ => 32
  | .ssin_ => 33
  | .scos_ => 34
  | .satan_ => 35
  | .spower_ => 36
  | .swhole_power_ => 37
  | .lplain_ => 40
  | .ladd_ => 41
  | .lmul_ => 42
  | .ltrim_ => 43
  | .linverse_ => 44
  | .lpower_ => 45
  | .lcut_ => 46
  | .exact_root_ => 49
  | .from_zero_ => 50
  | .of_call_ => 51
  | .of_root_ => 52
  | .of_power_ => 53
  | .of_sum_ => 54
  | .of_term_ => 55
  | .laurent_of_ => 56
  | .series_of_ => 57
  | .t_num_ => 62
  | .t_sym_ => 63
  | .t_sum_ => 64
  | .t_prod_ => 65
  | .t_pow_ => 66
  | .t_call_ => 67
  | .t_quotient_ => 68
  | .law_draw_ => 70
  | .law_part_ => 71
  | .law_lowest_ => 72
  | .law_plus_ => 73
  | .law_cauchy_ => 74
  | .law_told_ => 75
  | .law_deeds_right_ => 76
  | .law_quotient_right_ => 77
def recAt (k : Nat) : DefRec := match recOf (stAt k) with | some d => d | none => ⟨nm "", default, [], default, default⟩
theorem nth_mem : ∀ (l : List Stmt) (k : Nat), k < l.length → nthS l k ∈ l
  | [], k, h => absurd h (Nat.not_lt_zero k)
  | a :: r, 0, _ => .head _
  | a :: r, k + 1, h => .tail _ (nth_mem r k (Nat.lt_of_succ_lt_succ h))
theorem rec_mem {k : Nat} (h : Nat.blt k PySem.Challenge.pw_sa0122_01.main.body.length = true) (e : recOf (stAt k) = some (recAt k)) : recAt k ∈ recs0 :=
  List.mem_filterMap.mpr ⟨stAt k, nth_mem _ _ (Nat.le_of_ble_eq_true h), e⟩
theorem fn_mem (f : Fn) : recAt (ixOf f) ∈ recs0 := by cases f <;> exact rec_mem rfl rfl
theorem fn_name (f : Fn) : (recAt (ixOf f)).name = nm (fnStr f) := by cases f <;> rfl
theorem law_mem : recAt 78 ∈ recs0 := rec_mem rfl rfl
theorem ints_rep {P : Params} {h : Heap} : ∀ {vs : List Value} (l : List Int), WellAll P h vs (ofPys (l.map .int)) → RepAll (fun _ => False) h vs (l.map .int)
  | _, [], .nil => .nil
  | _, i :: r, .cons x y => by cases x; exact .cons (.int _ _) (ints_rep r y)
theorem list_rep {P : Params} {h : Heap} {a : Addr} {l : List Int} (x : Well P h (.ref a) (ofPy (.list (l.map .int)))) : Rep (fun _ => False) h (.ref a) (.lst (l.map .int)) := by
  cases x with
  | list e y => exact .lst e (fun z => z) (by simpa using ints_rep l y)
theorem boot_blt : ∀ q ∈ bltTab, bootBuiltins (nm q.1) = some q.2 ∧ nm q.1 ≠ nm "__name__" := by
  intro q hq
  simp only [bltTab, List.mem_cons, List.not_mem_nil, or_false] at hq
  rcases hq with rfl | rfl | rfl | rfl | rfl | rfl | rfl | rfl | rfl | rfl <;> exact ⟨by kernel_rfl, by decide +kernel⟩
theorem law_main (P : Program) (w : World) (p : Program) (loose : List Str) (mean : ExcName → Option Value) (mg mb : Str → Option Value) (s : Shared) (T : Top p loose mean mg mb s.heap) (Y : Sees s.heap) (hrec : recsOf p = recs0) (hfree : freeOk p loose = true)
    (fa : Addr) (hmg : mg (nm "law") = some (.ref fa)) (a : Addr) (l : List Int) (hw : Well w.params s.heap (.ref a) (ofPy (.list (l.map .int)))) (hl : l.length ≤ 63) :
    wpAny (model P w) callerA (call (.ref fa) [.ref a]) (fun v s' => v = .bool true ∧ s' = { s with heap := s'.heap, toks := s'.toks } ∧ s.heap.StaysIn s'.heap) (fun _ _ => False) s := by
  have Y' : Says s.heap := let ⟨_, e, k⟩ := Y; (says_of_all e).keeps k
  obtain ⟨m, hm, hc, C, f, N, mN, F⟩ := Y'
  have em : m = mg := hm.eq_nsMap.trans T.g.eq_nsMap.symm
  subst em
  have hfn : ∀ f : Fn, ∃ a o pm code doc, m (nm (fnStr f)) = some (.ref a) ∧ s.heap.get? a = some o ∧ o.data = .func (docDef (nm (fnStr f)) (recAt (ixOf f)).params (recAt (ixOf f)).body (recAt (ixOf f)).scope pm code doc) ∧ s.heap.CodeRec code (nm (fnStr f)) := fun f => by
    have := T.fn (recAt (ixOf f)) (by rw [hrec]; exact fn_mem f)
    rw [fn_name f] at this; exact this
  have hlaw : ∃ o pm code doc, s.heap.get? fa = some o ∧ o.data = .func (docDef (nm "law") (fArgs (stAt 78)) (fBody (stAt 78)) (fScope (stAt 78)) pm code doc) ∧ s.heap.CodeRec code (nm "law") := by
    obtain ⟨a', o, pm, code, doc, h1, h2, h3, h4⟩ := T.fn (recAt 78) (by rw [hrec]; exact law_mem)
    have e := hmg.symm.trans (show m (nm "law") = some (.ref a') from h1)
    cases e
    exact ⟨o, pm, code, doc, h2, h3, h4⟩
  let G : Gl := ⟨P, w, s.heap, m, mb, FlyD s.heap C, fun f => Classical.choose (hfn f)⟩
  have gd : ∀ f : Fn, m (nm (fnStr f)) = some (.ref (G.fa f)) ∧ DefAt G f (recAt (ixOf f)).params (recAt (ixOf f)).body (recAt (ixOf f)).scope := fun f => by
    obtain ⟨o, pm, code, doc, h1, h2, h3, h4⟩ := Classical.choose_spec (hfn f)
    exact ⟨h1, o, pm, code, doc, h2, h3, h4⟩
  have ok : G.OK := by
    refine ⟨T.g, T.b, T.nolimit, fun f => ⟨(gd f).1, ?_⟩, hc, fun q hq => ⟨?_, ?_⟩⟩
    · obtain ⟨o, pm, code, doc, h1, h2, _⟩ := (gd f).2
      exact ⟨o, _, h1, h2⟩
    · have := List.all_eq_true.mp hfree q hq
      simp only [Bool.and_eq_true, Bool.not_eq_true', ← Bool.not_eq_true, List.contains_iff_mem] at this
      obtain ⟨h1, h2, h3, h4, h5⟩ := this
      exact T.free _ h1 h2 h3 h4 h5
    · obtain ⟨h1, h2⟩ := boot_blt q hq
      exact (T.builtins _ h2).trans h1
  have pg : PG G C f N mN :=
    { gx := ⟨ok, F, rfl⟩
      d_gcd := (gd .gcd_).2
      d_bits_of := (gd .bits_of_).2
      d_root_of := (gd .root_of_).2
      d_rat := (gd .rat_).2
      d_radd := (gd .radd_).2
      d_rsub := (gd .rsub_).2
      d_rmul := (gd .rmul_).2
      d_rdiv := (gd .rdiv_).2
      d_rpower := (gd .rpower_).2
      d_is_vast := (gd .is_vast_).2
      d_rcompare := (gd .rcompare_).2
      d_cut := (gd .cut_).2
      d_let := (gd .let_).2
      d_sadd := (gd .sadd_).2
      d_sscale := (gd .sscale_).2
      d_mixed := (gd .mixed_).2
      d_smul := (gd .smul_).2
      d_sinverse := (gd .sinverse_).2
      d_sderive := (gd .sderive_).2
      d_sintegrate := (gd .sintegrate_).2
      d_need_begin := (gd .need_begin_).2
      d_sexp := (gd .sexp_).2
      d_slog := (gd .slog_).2
      d_ssin_cos := (gd .ssin_cos_).2
      d_ssin := (gd .ssin_).2
      d_spower := (gd .spower_).2
      d_swhole_power := (gd .swhole_power_).2
      d_lplain := (gd .lplain_).2
      d_ladd := (gd .ladd_).2
      d_lmul := (gd .lmul_).2
      d_ltrim := (gd .ltrim_).2
      d_linverse := (gd .linverse_).2
      d_lpower := (gd .lpower_).2
      d_lcut := (gd .lcut_).2
      d_exact_root := (gd .exact_root_).2
      d_from_zero := (gd .from_zero_).2
      d_of_call := (gd .of_call_).2
      d_of_root := (gd .of_root_).2
      d_of_power := (gd .of_power_).2
      d_of_sum := (gd .of_sum_).2
      d_of_term := (gd .of_term_).2
      d_laurent_of := (gd .laurent_of_).2
      d_series_of := (gd .series_of_).2
      d_t_num := (gd .t_num_).2
      d_t_sym := (gd .t_sym_).2
      d_t_sum := (gd .t_sum_).2
      d_t_prod := (gd .t_prod_).2
      d_t_pow := (gd .t_pow_).2
      d_t_call := (gd .t_call_).2
      d_t_quotient := (gd .t_quotient_).2
      d_law_draw := (gd .law_draw_).2
      d_law_part := (gd .law_part_).2
      d_law_lowest := (gd .law_lowest_).2
      d_law_plus := (gd .law_plus_).2
      d_law_cauchy := (gd .law_cauchy_).2
      d_law_told := (gd .law_told_).2
      d_law_deeds_right := (gd .law_deeds_right_).2
      d_law_quotient_right := (gd .law_quotient_right_).2 }
  exact law_call pg (gd .law_draw_).2 hlaw rfl hl (list_rep hw)
end Mine
end
section
open PySem PySem.W PyProof.Rows PySem.Calls PySem.Spec
namespace Mine
theorem said : PySem.W.OpenLaw.wellSaid PySem.Challenge.rw_sa0122_01 = true := by
  rw [PySem.W.Fast.te9446332074065402090]
  kernel_rfl
end Mine
set_option maxRecDepth 100000 in
set_option maxHeartbeats 8000000 in
theorem PySem.Challenge.cw_sa0122_01_holds : PySem.Challenge.rw_sa0122_01.Holds := by
  w_on
  refine holds_law Mine.said fun said => ?_
  refine holds_open (r := Mine.theRow) (q := Mine.view) (loose := []) (Xt := Mine.tests) (XP := XL Mine.view []) (YP := Mine.hook.says) (d := Mine.recAt 78) (kwd := []) Mine.left Mine.hook.of Mine.hook.keeps
    (fun s e => xl_of s (Bool.and_eq_true_iff.mp e).1) XL.keeps (by kernel_rfl) (by kernel_rfl) (by kernel_rfl) (fun s e => recFacts_of (Bool.and_eq_true_iff.mp e).2) (by rfl) (by assumption) (by decide +kernel) ⟨rfl, rfl, rfl, rfl, rfl, by decide +kernel⟩ ?hw ?hc
  case hw => w_witness2
  intro w s₀ s₁ mg mb G Y fa o pm cd doc dV kV ho hd hcd hD hmg hg args vals as hpre hlay hrd hwl hlo
  clear ho hd hcd hD
  refine Ground.open G ?_
  intro T B D TE TW
  wrow_args hpre hlay hrd hwl hlo
  refine wpAny_mono (Mine.law_main _ w Mine.view _ _ mg mb s₁ T Y Mine.v_recs (by kernel_rfl) fa hmg _ _ (by assumption) (by omega)) ?_ ?_
  · rintro v s' ⟨rfl, e, k⟩
    exact Mine.good_end hg e k
  · intro e s' q; exact q.elim
end
