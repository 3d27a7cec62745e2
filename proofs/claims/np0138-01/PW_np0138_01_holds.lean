import PyProof.Rows.All
import Wide.All
import Open.Line
import Open.Boot
import Open.Tree
import OpenK.KMore
import PySem.Challenge.RW_np0138_01
set_option Elab.async false
set_option genSizeOf false
set_option genSizeOfSpec false
section
open PySem PySem.Calls PyProof.Rows PySem.W PySem.Spec
set_option maxRecDepth 100000
namespace NP


noncomputable def Grow (fr : List Addr) (h h' : Heap) : Prop :=
  ∀ b o, h.get? b = some o → (b ∉ fr → h'.get? b = some o) ∧ ∃ sl, h'.get? b = some { o with slots := sl }

theorem Grow.refl (fr : List Addr) (h : Heap) : Grow fr h h := fun _ o e => ⟨fun _ => e, o.slots, e⟩
theorem Grow.trans {fr : List Addr} {h₁ h₂ h₃ : Heap} (x : Grow fr h₁ h₂) (y : Grow fr h₂ h₃) : Grow fr h₁ h₃ := fun b o e => by
  obtain ⟨a1, sl, a2⟩ := x b o e
  refine ⟨fun n => (y b o (a1 n)).1 n, ?_⟩
  obtain ⟨_, sl', b2⟩ := y b _ a2
  exact ⟨sl', b2⟩
theorem Grow.of_stays {fr : List Addr} {h h' : Heap} (k : ∀ b o, h.get? b = some o → h'.get? b = some o) : Grow fr h h' := fun b o e => ⟨fun _ => k b o e, o.slots, k b o e⟩
theorem Grow.mono {fr fr' : List Addr} {h h' : Heap} (x : Grow fr h h') (s : ∀ b, b ∈ fr → b ∈ fr') : Grow fr' h h' := fun b o e => ⟨fun n => (x b o e).1 fun m => n (s b m), (x b o e).2⟩
theorem Grow.drop {fr : List Addr} {L : Addr} {h₀ h h' : Heap} (x : Grow fr h₀ h) (y : Grow (L :: fr) h h') (hL : h₀.get? L = none) : Grow fr h₀ h' := fun b o e => by
  have nb : b ≠ L := fun q => by rw [q, hL] at e; cases e
  obtain ⟨a1, sl, a2⟩ := x b o e
  refine ⟨fun n => (y b o (a1 n)).1 fun m => ?_, ?_⟩
  · rcases List.mem_cons.mp m with m | m
    · exact nb m
    · exact n m
  · obtain ⟨_, sl', b2⟩ := y b _ a2
    exact ⟨sl', b2⟩
theorem Grow.but {fr : List Addr} {a : Addr} {h₀ h h' : Heap} (x : Grow fr h₀ h) (y : ∀ b o, b ≠ a → h.get? b = some o → h'.get? b = some o) (ha : h₀.get? a = none) : Grow fr h₀ h' := fun b o e => by
  have nb : b ≠ a := fun q => by rw [q, ha] at e; cases e
  obtain ⟨a1, sl, a2⟩ := x b o e
  exact ⟨fun n => y b o nb (a1 n), sl, y b _ nb a2⟩
theorem Grow.stays {fr : List Addr} {base h h' : Heap} (x : Grow fr h h') (k : base.StaysIn h) (n : ∀ b ∈ fr, base.get? b = none) : base.StaysIn h' := fun b o e =>
  (x b o (k b o e)).1 fun m => by rw [n b m] at e; cases e
theorem Grow.up {fr : List Addr} {h h' : Heap} (x : Grow fr h h') (b : Addr) (o : Obj) (e : h.get? b = some o) : ∃ sl, h'.get? b = some { o with slots := sl } := (x b o e).2

theorem ns_up {h h' : Heap} {a : Addr} {m : Str → Option Value} (x : ∀ o, h.get? a = some o → ∃ sl, h'.get? a = some { o with slots := sl }) (n : h.Ns a m) : h'.Ns a m := by
  obtain ⟨o, es, ep, ho, hd, r⟩ := n
  obtain ⟨sl, e⟩ := x o ho
  exact ⟨_, es, ep, e, hd, r⟩
theorem Grow.ns {fr : List Addr} {h h' : Heap} {a : Addr} {m : Str → Option Value} (x : Grow fr h h') (n : h.Ns a m) : h'.Ns a m := ns_up (x.up a) n
theorem Grow.funFrames {fr : List Addr} {h h' base : Heap} (x : Grow fr h h') {l : List Env} (hl : h.FunFrames base l) : h'.FunFrames base l :=
  hl.of_keeps fun b o e _ => let ⟨_, q⟩ := x.up b o e; ⟨_, q, rfl⟩

noncomputable def frs (l : List Env) : List Addr := l.filterMap (·.frame)
theorem frs_none {base h : Heap} {l : List Env} (hl : h.FunFrames base l) : ∀ b ∈ frs l, base.get? b = none := fun _ hb => (hl.mem hb).1
theorem frs_there {base h : Heap} {l : List Env} (hl : h.FunFrames base l) : ∀ b ∈ frs l, ∃ o, h.get? b = some o ∧ ∀ vs, o.data ≠ .fields vs := fun _ hb => (hl.mem hb).2
theorem Grow.rec {h h' base : Heap} {l : List Env} (x : Grow (frs l) h h') (hl : h.FunFrames base l) {b : Addr} {o : Obj} {vs : Array Value} (e : h.get? b = some o) (hd : o.data = .fields vs) : h'.get? b = some o :=
  (x b o e).1 fun m => by
    obtain ⟨o', e', n⟩ := frs_there hl b m
    rw [e] at e'
    cases e'
    exact n vs hd


mutual
noncomputable def flat : PyData → Bool
  | .none | .bool _ | .int _ | .str _ => true
  | .tuple xs => flats xs
  | .list _ | .dict _ => false
noncomputable def flats : List PyData → Bool
  | [] => true
  | x :: xs => flat x && flats xs
end

section
variable {h h' : Heap}
theorem reads_tup (k : ∀ b o, h.get? b = some o → o.cls = .type "tuple" → (∃ x n, o.data = .seq x n) → ∃ sl, h'.get? b = some { o with slots := sl }) {v : Value} {d : PyData} {as : List Addr} (r : Reads h v d as) : flat d = true → Reads h' v d as := by
  refine Reads.rec (motive_1 := fun v d as _ => flat d = true → Reads h' v d as) (motive_2 := fun vs ds as _ => flats ds = true → ReadsAll h' vs ds as) (fun _ => .none) (fun b _ => .bool b) (fun i t _ => .int i t) (fun x t _ => .str x t) ?_ ?_ ?_ (fun _ => .nil) ?_ r
  · intro a o vs n xs as _ _ _ _ _ e; cases e
  · intro a o vs n xs as h1 h2 h3 _ ih e
    obtain ⟨sl, q⟩ := k _ _ h1 h2 ⟨_, _, h3⟩
    exact .tuple q h2 h3 (ih e)
  · intro a o vs n xs as bs _ _ _ _ _ _ _ e; cases e
  · intro v vs d ds as bs _ _ i1 i2 e
    have e' := Bool.and_eq_true_iff.mp (show (flat d && flats ds) = true from e)
    exact .cons (i1 e'.1) (i2 e'.2)
theorem readsAll_ind {P : List Value → List PyData → List Addr → Prop} (h0 : P [] [] []) (h1 : ∀ v vs d ds as bs, Reads h v d as → P vs ds bs → P (v :: vs) (d :: ds) (as ++ bs)) {vs : List Value} {ds : List PyData} {as : List Addr} (r : ReadsAll h vs ds as) : P vs ds as := by
  refine ReadsAll.rec (motive_1 := fun _ _ _ _ => True) (motive_2 := fun vs ds as _ => P vs ds as) trivial (fun _ => trivial) (fun _ _ => trivial) (fun _ _ => trivial) ?_ ?_ ?_ h0 (fun a _ _ ih => h1 _ _ _ _ _ _ a ih) r
  · intros; trivial
  · intros; trivial
  · intros; trivial
theorem readsAll_tup (k : ∀ b o, h.get? b = some o → o.cls = .type "tuple" → (∃ x n, o.data = .seq x n) → ∃ sl, h'.get? b = some { o with slots := sl }) {vs : List Value} {ds : List PyData} {as : List Addr} (r : ReadsAll h vs ds as) : flats ds = true → ReadsAll h' vs ds as := by
  refine readsAll_ind (P := fun vs ds as => flats ds = true → ReadsAll h' vs ds as) (fun _ => .nil) (fun v vs d ds as bs a ih e => ?_) r
  have e' := Bool.and_eq_true_iff.mp (show (flat d && flats ds) = true from e)
  exact .cons (reads_tup k a e'.1) (ih e'.2)
theorem reads_up (k : ∀ b o, h.get? b = some o → ∃ sl, h'.get? b = some { o with slots := sl }) {v : Value} {d : PyData} {as : List Addr} (r : Reads h v d as) : Reads h' v d as := by
  refine Reads.rec (motive_1 := fun v d as _ => Reads h' v d as) (motive_2 := fun vs ds as _ => ReadsAll h' vs ds as) .none .bool .int .str ?_ ?_ ?_ .nil (fun _ _ i1 i2 => .cons i1 i2) r
  · intro a o vs n xs as h1 h2 h3 _ ih; obtain ⟨_, q⟩ := k _ _ h1; exact .list q h2 h3 ih
  · intro a o vs n xs as h1 h2 h3 _ ih; obtain ⟨_, q⟩ := k _ _ h1; exact .tuple q h2 h3 ih
  · intro a o es n kvs as bs h1 h2 h3 _ _ i1 i2; obtain ⟨_, q⟩ := k _ _ h1; exact .dict q h2 h3 i1 i2
theorem readsAll_up (k : ∀ b o, h.get? b = some o → ∃ sl, h'.get? b = some { o with slots := sl }) {vs : List Value} {ds : List PyData} {as : List Addr} (r : ReadsAll h vs ds as) : ReadsAll h' vs ds as :=
  readsAll_ind .nil (fun _ _ _ _ _ _ a ih => .cons (reads_up k a) ih) r
theorem reads_nil {v : Value} {d : PyData} {as : List Addr} (r : Reads h v d as) : flat d = true → as = [] := by
  refine Reads.rec (motive_1 := fun v d as _ => flat d = true → as = []) (motive_2 := fun vs ds as _ => flats ds = true → as = []) (fun _ => rfl) (fun _ _ => rfl) (fun _ _ _ => rfl) (fun _ _ _ => rfl) ?_ ?_ ?_ (fun _ => rfl) ?_ r
  · intro a o vs n xs as _ _ _ _ _ e; cases e
  · intro a o vs n xs as _ _ _ _ ih e; exact ih e
  · intro a o vs n xs as bs _ _ _ _ _ _ _ e; cases e
  · intro v vs d ds as bs _ _ i1 i2 e
    have e' := Bool.and_eq_true_iff.mp (show (flat d && flats ds) = true from e)
    rw [i1 e'.1, i2 e'.2]; rfl
theorem readsAll_nil {vs : List Value} {ds : List PyData} {as : List Addr} (r : ReadsAll h vs ds as) : flats ds = true → as = [] := by
  refine readsAll_ind (P := fun vs ds as => flats ds = true → as = []) (fun _ => rfl) (fun v vs d ds as bs a ih e => ?_) r
  have e' := Bool.and_eq_true_iff.mp (show (flat d && flats ds) = true from e)
  rw [reads_nil a e'.1, ih e'.2]; rfl
theorem readsAll_length {vs : List Value} {ds : List PyData} {as : List Addr} (r : ReadsAll h vs ds as) : vs.length = ds.length :=
  readsAll_ind (P := fun vs ds _ => vs.length = ds.length) rfl (fun _ _ _ _ _ _ _ ih => congrArg (· + 1) ih) r
theorem readsAll_get {vs : List Value} {ds : List PyData} {as : List Addr} (r : ReadsAll h vs ds as) : ∀ {i : Nat} {d : PyData}, ds[i]? = some d → ∃ v as', vs[i]? = some v ∧ Reads h v d as' := by
  refine readsAll_ind (P := fun vs ds _ => ∀ {i : Nat} {d : PyData}, ds[i]? = some d → ∃ v as', vs[i]? = some v ∧ Reads h v d as') (fun {i d} e => by cases e) (fun v vs d ds as bs a ih {i d'} e => ?_) r
  cases i with
  | zero => cases e; exact ⟨_, _, rfl, a⟩
  | succ i => exact ih (i := i) e
theorem readsAll_append {vs : List Value} {ds : List PyData} {as : List Addr} (r : ReadsAll h vs ds as) : ∀ {ws : List Value} {es : List PyData} {bs : List Addr}, ReadsAll h ws es bs → ReadsAll h (vs ++ ws) (ds ++ es) (as ++ bs) := by
  refine readsAll_ind (P := fun vs ds as => ∀ {ws : List Value} {es : List PyData} {bs : List Addr}, ReadsAll h ws es bs → ReadsAll h (vs ++ ws) (ds ++ es) (as ++ bs)) (fun q => q) (fun v vs d ds as cs a ih {ws es bs} q => ?_) r
  rw [List.append_assoc]
  exact .cons a (ih q)
end
theorem flats_append (xs ys : List PyData) : flats (xs ++ ys) = (flats xs && flats ys) := by
  induction xs with
  | nil => rfl
  | cons x r ih => show (flat x && flats (r ++ ys)) = _; rw [ih]; show _ = ((flat x && flats r) && flats ys); rw [Bool.and_assoc]
theorem flats_get {xs : List PyData} (h : flats xs = true) {i : Nat} {d : PyData} (e : xs[i]? = some d) : flat d = true := by
  induction xs generalizing i with
  | nil => simp at e
  | cons x r ih =>
    have h' := Bool.and_eq_true_iff.mp (show (flat x && flats r) = true from h)
    cases i with
    | zero => simp at e; exact e ▸ h'.1
    | succ i => exact ih h'.2 (by simpa using e)

end NP
end
section
open PySem PySem.Calls PyProof.Rows PySem.W PySem.Spec
set_option maxRecDepth 100000
set_option maxHeartbeats 8000000
namespace NP


noncomputable def excBm : List Value := [.type "Exception", .type "BaseException", .type "object"]
noncomputable def noNames : List String := ["__getattribute__", "__getattr__", "__setattr__", "code", "value", "errorcode", "level", "ret", "info", "is_noted", "line", "extra"]

noncomputable abbrev pw : Program := PySem.Challenge.pw_np0138_01
noncomputable def sieve : Nat → List Nat → List Stmt → List Stmt
  | _, _, [] => []
  | i, ds, s :: r => if ds.contains i then sieve (i + 1) ds r else s :: sieve (i + 1) ds r
noncomputable def topView : Program := { pw with main := { pw.main with body := sieve 0 [0, 4, 5, 13, 17, 24, 38] pw.main.body } }
noncomputable def topLoose : List Str := [Str.ofString "Raised", Str.ofString "error"]

noncomputable def errFd : Option FuncData := match (show Option Stmt from pw.main.body[4]?) with
  | some (Stmt.FunctionDef nm a b _ _ _ sc _ _ _) => some { name := nm, qualname := nm, params := a, body := .stmts b, scope := sc, globals := mainGlobals, closure := [], defaults := .ref 70, kwdefaults := .none, pyModule := .str (Str.ofString "tclcore.faults") 187, code := .ref 76, builtins := builtinsNs }
  | _ => none
noncomputable def initFd : Option FuncData := match (show Option Stmt from pw.main.body[3]?) with
  | some (Stmt.ClassDef _ _ _ (Stmt.FunctionDef nm a b _ _ _ sc _ _ _ :: _) _ _ _ _ _ _ _) => some { name := nm, qualname := Str.ofString "Raised.__init__", params := a, body := .stmts b, scope := sc, globals := mainGlobals, closure := [], defaults := .ref 55, kwdefaults := .none, pyModule := .str (Str.ofString "tclcore.faults") 187, code := .ref 61, builtins := builtinsNs }
  | _ => none
noncomputable def clsObj : Obj := excClassObj (Str.ofString "Raised") (Str.ofString "Raised") 65 64 [.type "Exception"] excBm true [] [] false none none (some (.ref 47)) none (some (.str (Str.ofString "Raised") 234)) (some (.str (Str.ofString "Raised") 242)) (some (.bool true)) "Exception.__new__"
noncomputable def tupObj (vs : Array Value) : Obj := { cls := .type "tuple", data := .seq vs }

structure Obs where
  c : Option Obj
  i : Option (Value × Option FuncData)
  e : Option (Option FuncData)
  t : List (Option Obj)
  b : Bool
noncomputable def fdOf (o : Obj) : Option FuncData := match o.data with
  | .func fd => some fd
  | _ => none
noncomputable def codeOk (h : Heap) (c : Addr) (q : Str) : Bool := match h.get? c with
  | some o => (match o.data with
    | .fields vs => (match (show Option Value from vs[1]?) with
      | some (Value.str x _) => x == q
      | _ => false)
    | _ => false)
  | none => false
noncomputable def obs (s : Shared) : Obs where
  c := s.heap.get? 65
  i := (s.heap.get? 62).map fun o => (o.cls, fdOf o)
  e := (s.heap.get? 77).map fdOf
  t := [s.heap.get? 70, s.heap.get? 69, s.heap.get? 55, s.heap.get? 54]
  b := (codeOk s.heap 76 (Str.ofString "error") && codeOk s.heap 61 (Str.ofString "Raised.__init__")) && (s.heap.isNs 64 && (s.heap.nsMap 64 (Str.ofString "__init__") == some (.ref 62) && noNames.all fun x => (s.heap.nsMap 64 (Str.ofString x)).isNone)) &&
    (s.heap.isNs mainGlobals && (s.heap.nsMap mainGlobals (Str.ofString "Raised") == some (.ref 65) && s.heap.nsMap mainGlobals (Str.ofString "error") == some (.ref 77)))
noncomputable def obsVal : Obs where
  c := some clsObj
  i := some (.type "function", initFd)
  e := some errFd
  t := [some (tupObj #[.ref 69]), some (tupObj #[.str (Str.ofString "NONE") 278]), some (tupObj #[.ref 54, .int 0 247, .int 0 248]), some (tupObj #[.str (Str.ofString "NONE") 246])]
  b := true

structure HK (h : Heap) : Prop where
  cls : h.get? 65 = some clsObj
  ns : ∃ mN, h.Ns 64 mN ∧ mN (Str.ofString "__init__") = some (.ref 62) ∧ ∀ x ∈ noNames, mN (Str.ofString x) = none
  ini : ∃ o, h.get? 62 = some o ∧ o.cls = .type "function" ∧ fdOf o = initFd
  err : ∃ o, h.get? 77 = some o ∧ fdOf o = errFd
  t70 : h.get? 70 = some (tupObj #[.ref 69])
  t69 : h.get? 69 = some (tupObj #[.str (Str.ofString "NONE") 278])
  t55 : h.get? 55 = some (tupObj #[.ref 54, .int 0 247, .int 0 248])
  t54 : h.get? 54 = some (tupObj #[.str (Str.ofString "NONE") 246])
  k76 : h.CodeRec (.ref 76) (Str.ofString "error")
  k61 : h.CodeRec (.ref 61) (Str.ofString "Raised.__init__")
  gl : ∃ m, h.Ns mainGlobals m ∧ m (Str.ofString "Raised") = some (.ref 65) ∧ m (Str.ofString "error") = some (.ref 77)
theorem codeOk_rec {h : Heap} {c : Addr} {q : Str} (x : codeOk h c q = true) : h.CodeRec (.ref c) q := by
  unfold codeOk at x
  split at x
  · rename_i o ho
    split at x
    · rename_i vs hd
      split at x
      · rename_i y t hy
        obtain rfl := eq_of_beq x
        exact ⟨c, o, vs, t, rfl, ho, hd, hy⟩
      · cases x
    · cases x
  · cases x
theorem hk_of {s : Shared} (e : obs s = obsVal) : HK s.heap := by
  have ec : s.heap.get? 65 = some clsObj := congrArg Obs.c e
  have ei : (s.heap.get? 62).map (fun o => (o.cls, fdOf o)) = some (.type "function", initFd) := congrArg Obs.i e
  have ee : (s.heap.get? 77).map fdOf = some errFd := congrArg Obs.e e
  have et : [s.heap.get? 70, s.heap.get? 69, s.heap.get? 55, s.heap.get? 54] = _ := congrArg Obs.t e
  have eb : (_ && _) = true := congrArg Obs.b e
  obtain ⟨eb, b3⟩ := Bool.and_eq_true_iff.mp eb
  obtain ⟨b1, b2⟩ := Bool.and_eq_true_iff.mp eb
  obtain ⟨c1, c2⟩ := Bool.and_eq_true_iff.mp b1
  obtain ⟨d1, d2⟩ := Bool.and_eq_true_iff.mp b2
  obtain ⟨d2, d3⟩ := Bool.and_eq_true_iff.mp d2
  obtain ⟨f1, f2⟩ := Bool.and_eq_true_iff.mp b3
  obtain ⟨f2, f3⟩ := Bool.and_eq_true_iff.mp f2
  injection et with t1 et
  injection et with t2 et
  injection et with t3 et
  injection et with t4 et
  obtain ⟨oi, hi, qi⟩ := Option.map_eq_some_iff.mp ei
  obtain ⟨oe, he, qe⟩ := Option.map_eq_some_iff.mp ee
  refine ⟨ec, ⟨_, .of_isNs d1, eq_of_beq d2, fun x hx => ?_⟩, ⟨oi, hi, congrArg Prod.fst qi, congrArg Prod.snd qi⟩, ⟨oe, he, qe⟩, t1, t2, t3, t4, codeOk_rec c1, codeOk_rec c2, _, .of_isNs f1, eq_of_beq f2, eq_of_beq f3⟩
  exact Option.isNone_iff_eq_none.mp (List.all_eq_true.mp d3 x hx)
theorem HK.keeps {h h' : Heap} (x : HK h) (k : ∀ b o, h.get? b = some o → h'.get? b = some o) : HK h' :=
  ⟨k _ _ x.cls, let ⟨m, a, b⟩ := x.ns; ⟨m, a.keeps k, b⟩, let ⟨o, a, b⟩ := x.ini; ⟨o, k _ _ a, b⟩, let ⟨o, a, b⟩ := x.err; ⟨o, k _ _ a, b⟩, k _ _ x.t70, k _ _ x.t69, k _ _ x.t55, k _ _ x.t54, x.k76.keeps k, x.k61.keeps k, let ⟨m, a, b⟩ := x.gl; ⟨m, a.keeps k, b⟩⟩
noncomputable abbrev topR : OpenRow := PySem.Challenge.rw_np0138_01.row
noncomputable def topX (s : Shared) : Bool := xlAt topView [] s && recOk (RowW.records (OpenRow.toRowW topR)) s


noncomputable def runT (tb : String → Option Builtin) (p : Program) (w : World) (n₀ : Nat) (ann : Option Value) : Nat → SharedT → Thread → Option SharedT
  | 0, _, _ => none
  | n + 1, s, t => match through t with
    | true => some s
    | false => match stepOk n₀ ann t with
      | false => none
      | true => match stepT (denote tb) p w s t with
        | some (s', t') => runT tb p w n₀ ann n s' t'
        | none => none
theorem runT_of {tb : String → Option Builtin} {p : Program} {w : World} {n₀ : Nat} {ann : Option Value} : ∀ (n : Nat) (s s' : SharedT) (t : Thread), runT tb p w n₀ ann n s t = some s' → topRun tb p w n₀ ann n s.abs t = some s'.abs
  | 0, _, _, _, h => by cases h
  | n + 1, s, s', t, h => by
    unfold runT at h
    unfold topRun
    cases ht : through t with
    | true => rw [ht] at h; cases h; rfl
    | false =>
      rw [ht] at h
      cases hk : stepOk n₀ ann t with
      | false => rw [hk] at h; cases h
      | true =>
        rw [hk] at h
        cases hs : stepT (denote tb) p w s t with
        | none => rw [hs] at h; cases h
        | some r =>
          obtain ⟨s₂, t₂⟩ := r
          rw [hs] at h
          rw [stepT_spec hs]
          exact runT_of n s₂ s' t₂ h
theorem left_of_tree {p q : Program} {loose : List Str} {Xt : Shared → Bool} {α : Type} {Yf : Shared → α} {Ya : World → α} {N : Nat} {g0 : Bool} {H₀ : Params → Heap} {T₀ : Params → BT} {n₀ : Nat} {life : Life} {gs₀ : Array GenState} {d₀ : Drawn} {k₀ : Nat} {m₀ : Nat} {ann : Option Value}
    (open_ : ∀ w : World, (fencedOpening treeTable p w N).map (fun s => (s.heap, s.gens, s.drawn, s.toks)) = some (H₀ w.params, gs₀, d₀, k₀))
    (size : ∀ w : World, ((H₀ w.params).isNs mainGlobals && gs₀.size == 0, (H₀ w.params).objs.size, (H₀ w.params).nsMap mainGlobals "__annotations__") = (true, m₀, ann))
    (abs : ∀ P : Params, absHeap (T₀ P) n₀ life = H₀ P)
    (run : ∀ (w : World) (os : OsState), (runT treeTable p w m₀ ann N ⟨T₀ w.params, n₀, life, gs₀, d₀, k₀, os⟩ (topStub p)).map (fun s =>
        (staticsOk (importedModules p.main.body) (H₀ w.params) s.abs.heap && namesBound p s.abs.heap && gensDone s.abs && laidKept (H₀ w.params) s.abs.heap, openSeen q loose (importedModules p.main.body) Xt g0 s.abs, Yf s.abs)) = some (true, openGood q loose, Ya w)) : LeftO p q loose Xt Yf Ya N g0 := fun w => by
  obtain ⟨⟨h, gs, d, k, os⟩, e, e'⟩ := Option.map_eq_some_iff.mp (open_ w)
  obtain ⟨rfl, rfl, rfl, rfl⟩ : h = H₀ w.params ∧ gs = gs₀ ∧ d = d₀ ∧ k = k₀ := by simpa using e'
  obtain ⟨z1, z2, z3⟩ : _ ∧ _ ∧ _ := by simpa only [Prod.mk.injEq] using size w
  obtain ⟨s, hs, hl⟩ := Option.map_eq_some_iff.mp (run w os)
  obtain ⟨l1, l2, l3⟩ : _ ∧ _ ∧ _ := by simpa only [Prod.mk.injEq] using hl
  have r := runT_of _ _ _ _ hs
  have ea : (SharedT.mk (T₀ w.params) n₀ life gs d k os).abs = ⟨H₀ w.params, gs, d, k, os⟩ := by
    unfold SharedT.abs
    rw [abs]
  rw [ea] at r
  have t : topFrom treeTable p w N ⟨H₀ w.params, gs, d, k, os⟩ = some s.abs := by
    unfold topFrom
    dsimp only
    rw [z1, z2, z3, r]
    show (match staticsOk (importedModules p.main.body) (H₀ w.params) s.abs.heap && namesBound p s.abs.heap && gensDone s.abs && laidKept (H₀ w.params) s.abs.heap with | true => _ | false => _) = _
    rw [l1]
  unfold openEnds
  rw [e]
  show (topFrom treeTable p w N _).map _ = _
  rw [t]
  exact congrArg some (Prod.ext l2 l3)
noncomputable def treeFrom : BT → Nat → List Obj → BT
  | t, _, [] => t
  | t, n, o :: r => treeFrom (t.ins n o) (n + 1) r
noncomputable def bootTree (P : Params) : BT := treeFrom .nil 0 (boot_heap P).objs.toList
theorem boot_abs (P : Params) : absHeap (bootTree P) 11 {} = boot_heap P := by kernel_rfl
theorem boot_size (w : World) : ((boot_heap w.params).isNs mainGlobals && (#[] : Array GenState).size == 0, (boot_heap w.params).objs.size, (boot_heap w.params).nsMap mainGlobals "__annotations__") = (true, 11, some (.ref 6)) := by kernel_rfl
theorem boot_top (w : World) : (fencedOpening treeTable pw w 4628).map (fun s => (s.heap, s.gens, s.drawn, s.toks)) = some (boot_heap w.params, Array.mk [], boot_drawn, boot_toks) :=
  boot_open (by kernel_rfl) (by decide +kernel) (fun _ => rfl) w
theorem top_run (w : World) (os : OsState) : (runT treeTable pw w 11 (some (.ref 6)) 4628 ⟨bootTree w.params, 11, {}, #[], boot_drawn, boot_toks, os⟩ (topStub pw)).map (fun s =>
    (staticsOk (importedModules pw.main.body) (boot_heap w.params) s.abs.heap && namesBound pw s.abs.heap && gensDone s.abs && laidKept (boot_heap w.params) s.abs.heap, openSeen topView topLoose (importedModules pw.main.body) topX true s.abs, obs s.abs)) = some (true, openGood topView topLoose, obsVal) := by
  kernel_rfl
theorem top_left : LeftO pw topView topLoose topX obs (fun _ => obsVal) 4628 := left_of_tree boot_top boot_size boot_abs top_run
end NP
end
section
open PySem PySem.Calls PyProof.Rows PySem.W PySem.Spec
set_option maxRecDepth 100000
namespace NP


inductive TV where
  | val (d : PyData)
  | own (xs : List PyData)
  | exc (t : Str) (ec : PyData)

inductive Out (α : Type) where
  | ok (a : α)
  | exc (t : Str) (ec : PyData)

inductive SO (σ : Type) where
  | next (s : σ)
  | ret (v : TV)

noncomputable abbrev Store := List (Option TV)

set_option genInjectivity false in
inductive CE where
  | lit (d : PyData)
  | var (i : Nat)
  | bin (op : Operator) (a b : CE)
  | neg (a : CE)
  | inv (a : CE)
  | not (a : CE)
  | cmp (op : CmpOp) (a b : CE)
  | cmp2 (o1 o2 : CmpOp) (a b c : CE)
  | boolop (isAnd : Bool) (es : List CE)
  | ife (t a b : CE)
  | tup (es : List CE)
  | lst (es : List CE)
  | call (f : Nat) (es : List CE)
  | len (a : CE)
  | ord (a : CE)
  | abs (a : CE)
  | tostr (a : CE)
  | min2 (a b : CE)
  | max2 (a b : CE)
  | lower (a : CE)
  | starts (a b : CE)
  | join (a b : CE)
  | sub (a i : CE)
  | slice (a lo hi : CE)
  | fstr (es : List CE)

set_option genInjectivity false in
inductive CIt where
  | rng (e : CE)
  | val (e : CE)

set_option genInjectivity false in
inductive CS where
  | assign (i : Nat) (e : CE)
  | assignT (is : List Nat) (e : CE)
  | aug (op : Operator) (i : Nat) (e : CE)
  | ite (t : CE) (a b : List CS)
  | loop (t : CE) (b : List CS)
  | for1 (i : Nat) (it : CIt) (b : List CS)
  | forT (is : List Nat) (it : CIt) (b : List CS)
  | ret (e : CE)
  | retNone
  | raise (e : CE)
  | append (i : Nat) (e : CE)
  | drop (e : CE)
  | catch (b : List CS)
  | stuck

set_option genInjectivity false in
structure CFn where
  name : Str
  np : Nat
  nm : List Str
  body : List CS


noncomputable def top : Nat := 2 ^ 1900
noncomputable def inTop (a : Int) : Bool := decide (a.natAbs < top)
noncomputable def strTop : Nat := 1000000

noncomputable def asVal : TV → Option PyData
  | .val d => some d
  | .own _ => none
  | .exc _ _ => none
noncomputable def asOwn : TV → Option (List PyData)
  | .own a => some a
  | .val _ => none
  | .exc _ _ => none
noncomputable def intD : PyData → Option Int
  | .int a => some a
  | _ => none
noncomputable def strD : PyData → Option Str
  | .str a => some a
  | _ => none
noncomputable def tupD : PyData → Option (List PyData)
  | .tuple a => some a
  | _ => none
noncomputable def listD : PyData → Option (List PyData)
  | .list a => some a
  | _ => none
noncomputable def asInt (x : TV) : Option Int := (asVal x).bind intD
noncomputable def asStr (x : TV) : Option Str := (asVal x).bind strD
noncomputable def asTup (x : TV) : Option (List PyData) := (asVal x).bind tupD
noncomputable def asList (x : TV) : Option (List PyData) := (asVal x).bind listD
theorem asVal_inv {x : TV} {d : PyData} (h : asVal x = some d) : x = .val d := by
  cases x <;> first | (cases h; rfl) | cases h
theorem asOwn_inv {x : TV} {d : List PyData} (h : asOwn x = some d) : x = .own d := by
  cases x <;> first | (cases h; rfl) | cases h
theorem intD_inv {x : PyData} {a : Int} (h : intD x = some a) : x = .int a := by
  cases x <;> first | (cases h; rfl) | cases h
theorem strD_inv {x : PyData} {a : Str} (h : strD x = some a) : x = .str a := by
  cases x <;> first | (cases h; rfl) | cases h
theorem tupD_inv {x : PyData} {a : List PyData} (h : tupD x = some a) : x = .tuple a := by
  cases x <;> first | (cases h; rfl) | cases h
theorem listD_inv {x : PyData} {a : List PyData} (h : listD x = some a) : x = .list a := by
  cases x <;> first | (cases h; rfl) | cases h
theorem bind_inv {α β : Type} {x : Option α} {f : α → Option β} {b : β} (h : x.bind f = some b) : ∃ a, x = some a ∧ f a = some b := Option.bind_eq_some_iff.mp h
theorem map_inv {α β : Type} {x : Option α} {f : α → β} {b : β} (h : x.map f = some b) : ∃ a, x = some a ∧ f a = b := Option.map_eq_some_iff.mp h
theorem asInt_inv {x : TV} {a : Int} (h : asInt x = some a) : x = .val (.int a) := by
  obtain ⟨d, h1, h2⟩ := bind_inv h
  exact intD_inv h2 ▸ asVal_inv h1
theorem asStr_inv {x : TV} {a : Str} (h : asStr x = some a) : x = .val (.str a) := by
  obtain ⟨d, h1, h2⟩ := bind_inv h
  exact strD_inv h2 ▸ asVal_inv h1
theorem asTup_inv {x : TV} {a : List PyData} (h : asTup x = some a) : x = .val (.tuple a) := by
  obtain ⟨d, h1, h2⟩ := bind_inv h
  exact tupD_inv h2 ▸ asVal_inv h1
theorem asList_inv {x : TV} {a : List PyData} (h : asList x = some a) : x = .val (.list a) := by
  obtain ⟨d, h1, h2⟩ := bind_inv h
  exact listD_inv h2 ▸ asVal_inv h1
noncomputable def alt {α β : Type} (x : Option α) (f : α → Option β) (y : Option β) : Option β := match x with
  | some a => f a
  | none => y
theorem or_inv {α β : Type} {x : Option α} {f : α → Option β} {y : Option β} {b : β} (h : alt x f y = some b) : (∃ a, x = some a ∧ f a = some b) ∨ y = some b := by
  cases x with
  | none => exact .inr h
  | some a => exact .inl ⟨a, rfl, h⟩
theorem ite_inv {β : Type} {p : Prop} [Decidable p] {x : Option β} {b : β} (h : (if p then x else none) = some b) : p ∧ x = some b := by
  by_cases q : p
  · rw [if_pos q] at h; exact ⟨q, h⟩
  · rw [if_neg q] at h; cases h
theorem eti_inv {β : Type} {p : Prop} [Decidable p] {x : Option β} {b : β} (h : (if p then none else x) = some b) : ¬ p ∧ x = some b := by
  by_cases q : p
  · rw [if_pos q] at h; cases h
  · rw [if_neg q] at h; exact ⟨q, h⟩
noncomputable def intop (op : Operator) (a b : Int) : Option TV := match op with
  | .Add => some (.val (.int (a + b)))
  | .Sub => some (.val (.int (a - b)))
  | .Mult => if inTop a && inTop b then some (.val (.int (a * b))) else none
  | .FloorDiv => if b ≠ 0 ∧ inTop b then some (.val (.int (a.fdiv b))) else none
  | .Mod => if b ≠ 0 then some (.val (.int (a.fmod b))) else none
  | .Pow => if 0 ≤ b ∧ b ≤ 100 ∧ inTop a then some (.val (.int (a ^ b.toNat))) else none
  | .LShift => if 0 ≤ b ∧ b ≤ 100 ∧ inTop a then some (.val (.int (a * 2 ^ b.toNat))) else none
  | .RShift => if 0 ≤ b then some (.val (.int (a.fdiv (2 ^ b.toNat)))) else none
  | .BitAnd => some (.val (.int (Builtin.bitAnd a b)))
  | .BitOr => some (.val (.int (Builtin.bitOr a b)))
  | .BitXor => some (.val (.int (Builtin.bitXor a b)))
  | .MatMult => none
  | .Div => none
noncomputable def isAdd : Operator → Bool
  | .Add => true
  | _ => false
theorem isAdd_inv {op : Operator} (h : isAdd op = true) : op = .Add := by cases op <;> first | rfl | cases h
noncomputable def catop (a b : List PyData) : Option TV := if a.length + b.length ≤ 1000 then some (.own (a ++ b)) else none
noncomputable def binop (op : Operator) (x y : TV) : Option TV := alt (asInt x) (fun a => (asInt y).bind (intop op a))
  (if isAdd op then alt (asStr x) (fun a => (asStr y).bind fun b => if a.length + b.length ≤ strTop then some (.val (.str (a ++ b))) else none)
    ((asOwn y).bind fun b => alt (asOwn x) (fun a => catop a b) ((asList x).bind fun a => catop a b)) else none)

noncomputable def anyEq (d : PyData) (xs : List PyData) : Bool := xs.any fun y => PyData.eqv y d
noncomputable def inOk (d : PyData) (xs : List PyData) : Bool := PyData.canLayAll0 xs && d.canLay0 && decide (d.depth ≤ 64)
noncomputable def isNone : PyData → Bool
  | .none => true
  | _ => false
noncomputable def boolD : PyData → Option Bool
  | .bool a => some a
  | _ => none
theorem boolD_inv {x : PyData} {a : Bool} (h : boolD x = some a) : x = .bool a := by
  cases x <;> first | (cases h; rfl) | cases h
noncomputable def eqD (a b : PyData) : Option Bool := if SeqAt.shaped a && SeqAt.shaped b then some (PyData.eqv a b) else none
noncomputable def eqop (a b : PyData) : Option Bool := match a with
  | .int x => (intD b).map fun y => x == y
  | .str x => (strD b).map fun y => x == y
  | .bool x => (boolD b).map fun y => x == y
  | .tuple _ => eqD a b
  | .none => none
  | .list _ => none
  | .dict _ => none
noncomputable def neop (a b : PyData) : Option Bool := match a with
  | .int x => (intD b).map fun y => x != y
  | .str x => (strD b).map fun y => x != y
  | .tuple _ => (eqD a b).map (!·)
  | .bool _ => none
  | .none => none
  | .list _ => none
  | .dict _ => none
noncomputable def intcmp (f : Int → Int → Bool) (x y : TV) : Option Bool := (asInt x).bind fun a => (asInt y).map fun b => f a b
noncomputable def isNoneT (y : TV) : Bool := match asVal y with
  | some d => isNone d
  | none => false
noncomputable def cmpop (op : CmpOp) (x y : TV) : Option Bool := match op with
  | .Eq => (asVal x).bind fun a => (asVal y).bind fun b => eqop a b
  | .NotEq => (asVal x).bind fun a => (asVal y).bind fun b => neop a b
  | .Lt => alt (asInt x) (fun a => (asInt y).map fun b => decide (a < b))
    ((asStr x).bind fun a => (asStr y).map fun b => decide (a.cps.toList < b.cps.toList))
  | .LtE => intcmp (fun a b => decide (a ≤ b)) x y
  | .Gt => intcmp (fun a b => decide (b < a)) x y
  | .GtE => intcmp (fun a b => decide (b ≤ a)) x y
  | .Is => (asVal x).bind fun a => if isNoneT y then some (isNone a) else none
  | .IsNot => (asVal x).bind fun a => if isNoneT y then some (!isNone a) else none
  | .In => (asVal x).bind fun d => alt (asTup y) (fun xs => if inOk d xs then some (anyEq d xs) else none)
    ((asList y).bind fun xs => if inOk d xs then some (anyEq d xs) else none)
  | .NotIn => (asVal x).bind fun d => (asTup y).bind fun xs => if inOk d xs then some (!anyEq d xs) else none

noncomputable def truth : TV → Option Bool
  | .val .none => some false
  | .val (.bool b) => some b
  | .val (.int i) => some (i != 0)
  | _ => none

noncomputable def strItem (s : Str) (k : Int) : Option PyData := if 0 ≤ k ∧ s.length ≤ strTop then (s.cps[k.toNat]?).map fun c => .str ⟨#[c]⟩ else none
noncomputable def itemop (xs : List PyData) (k : Int) : Option TV := if 0 ≤ k ∧ xs.length ≤ 1000 then (xs[k.toNat]?).map .val else none
noncomputable def subop (x y : TV) : Option TV := (asInt y).bind fun k => alt (asStr x) (fun s => (strItem s k).map .val) (alt (asTup x) (fun xs => itemop xs k) ((asList x).bind fun xs => itemop xs k))
noncomputable def lenop : TV → Option TV
  | .val (.str s) => if s.length ≤ strTop then some (.val (.int s.length)) else none
  | .val (.tuple xs) => if xs.length ≤ strTop then some (.val (.int xs.length)) else none
  | .val (.list xs) => if xs.length ≤ strTop then some (.val (.int xs.length)) else none
  | _ => none
noncomputable def ordop : TV → Option TV
  | .val (.str s) => if s.length = 1 then some (.val (.int (s.cps.getD 0 0 : Nat))) else none
  | _ => none
noncomputable def absop : TV → Option TV
  | .val (.int a) => some (.val (.int (if a < 0 then -a else a)))
  | _ => none
noncomputable def strop : TV → Option TV
  | .val (.int a) => if inTop a then some (.val (.str (Str.ofString (toString a)))) else none
  | .val (.str s) => some (.val (.str s))
  | _ => none
noncomputable def minop : TV → TV → Option TV
  | .val (.int a), .val (.int b) => some (.val (.int (if b < a then b else a)))
  | _, _ => none
noncomputable def maxop : TV → TV → Option TV
  | .val (.int a), .val (.int b) => some (.val (.int (if b > a then b else a)))
  | _, _ => none
noncomputable def lowerop : TV → Option TV
  | .val (.str s) => if s.length ≤ strTop then some (.val (.str (Txt.lower s))) else none
  | _ => none
noncomputable def startsop : TV → TV → Option TV
  | .val (.str a), .val (.str b) => some (.val (.bool (Txt.startswith a b)))
  | _, _ => none
noncomputable def strsOf : List PyData → Option (List Str)
  | [] => some []
  | .str s :: r => (strsOf r).map (s :: ·)
  | _ => none
noncomputable def joinop : TV → TV → Option TV
  | .val (.str sep), .val (.list xs) => (strsOf xs).bind fun ys => if (ys.map (·.length)).sum + ys.length * sep.length ≤ strTop then some (.val (.str (Txt.join sep ys))) else none
  | _, _ => none
noncomputable def sliceop (x y z : TV) : Option TV := (asStr x).bind fun s => (asInt y).bind fun a => (asInt z).bind fun b => if 0 ≤ a ∧ a ≤ b ∧ b ≤ s.cps.toList.length ∧ s.length ≤ strTop then some (.val (.str ⟨((s.cps.toList.drop a.toNat).take (b - a).toNat).toArray⟩)) else none
noncomputable def datas : List TV → Option (List PyData)
  | [] => some []
  | .val d :: r => if flat d then (datas r).map (d :: ·) else none
  | _ => none
noncomputable def okSize (n : Nat) : Bool := decide (n ≤ 1000)

noncomputable def isStr : TV → Bool
  | .val (.str _) => true
  | _ => false
noncomputable def view : TV → TV
  | .own xs => .val (.list xs)
  | v => v
noncomputable def keepable : TV → Bool
  | .val d => flat d
  | .own _ => true
  | .exc .. => false

noncomputable def sget (σ : Store) (i : Nat) : Option TV := (σ[i]?).join
noncomputable def sset (σ : Store) (i : Nat) (v : TV) : Store := σ.set i (some v)
noncomputable def ssetAll (σ : Store) : List Nat → List PyData → Store
  | i :: is, d :: ds => ssetAll (sset σ i (.val d)) is ds
  | _, _ => σ

noncomputable def ebind {α β : Type} (x : Option (Out α)) (f : α → Option (Out β)) : Option (Out β) := match x with
  | some (.ok a) => f a
  | some (.exc t e) => some (.exc t e)
  | none => none
noncomputable def lift {α : Type} (x : Option α) : Option (Out α) := x.map .ok

section
variable (Φ : Nat → List TV → Option (Out TV))
mutual
noncomputable def evE : CE → Store → Option (Out TV)
  | .lit d, _ => some (.ok (.val d))
  | .var i, σ => lift ((sget σ i).map view)
  | .bin op a b, σ => ebind (evE a σ) fun x => ebind (evE b σ) fun y => lift (binop op x y)
  | .neg a, σ => ebind (evE a σ) fun x => match x with | .val (.int i) => some (.ok (.val (.int (-i)))) | _ => none
  | .inv a, σ => ebind (evE a σ) fun x => match x with | .val (.int i) => some (.ok (.val (.int (Builtin.bitNot i)))) | _ => none
  | .not a, σ => ebind (evE a σ) fun x => lift ((truth x).map fun b => .val (.bool (!b)))
  | .cmp op a b, σ => ebind (evE a σ) fun x => ebind (evE b σ) fun y => lift ((cmpop op x y).map fun b => .val (.bool b))
  | .cmp2 o1 o2 a b c, σ => ebind (evE a σ) fun x => ebind (evE b σ) fun y => match cmpop o1 x y with
    | some true => ebind (evE c σ) fun z => lift ((cmpop o2 y z).map fun b => .val (.bool b))
    | some false => some (.ok (.val (.bool false)))
    | none => none
  | .boolop isAnd es, σ => evBs isAnd es σ
  | .ife t a b, σ => ebind (evT t σ) fun c => if c = true then evE a σ else evE b σ
  | .tup es, σ => ebind (evEs es σ) fun vs => lift ((datas vs).bind fun ds => if okSize ds.length then some (.val (.tuple ds)) else none)
  | .lst es, σ => ebind (evEs es σ) fun vs => lift ((datas vs).bind fun ds => if okSize ds.length then some (.own ds) else none)
  | .call f es, σ => ebind (evEs es σ) fun vs => Φ f vs
  | .len a, σ => ebind (evE a σ) fun x => lift (lenop x)
  | .ord a, σ => ebind (evE a σ) fun x => lift (ordop x)
  | .abs a, σ => ebind (evE a σ) fun x => lift (absop x)
  | .tostr a, σ => ebind (evE a σ) fun x => lift (strop x)
  | .min2 a b, σ => ebind (evE a σ) fun x => ebind (evE b σ) fun y => lift (minop x y)
  | .max2 a b, σ => ebind (evE a σ) fun x => ebind (evE b σ) fun y => lift (maxop x y)
  | .lower a, σ => ebind (evE a σ) fun x => lift (lowerop x)
  | .starts a b, σ => ebind (evE a σ) fun x => if isStr x then ebind (evE b σ) fun y => lift (startsop x y) else none
  | .join a b, σ => ebind (evE a σ) fun x => if isStr x then ebind (evE b σ) fun y => lift (joinop x y) else none
  | .sub a i, σ => ebind (evE a σ) fun x => ebind (evE i σ) fun y => lift (subop x y)
  | .slice a lo hi, σ => ebind (evE a σ) fun x => ebind (evE lo σ) fun y => ebind (evE hi σ) fun z => lift (sliceop x y z)
  | .fstr es, σ => ebind (evF Str.empty es σ) fun s => some (.ok (.val (.str s)))
noncomputable def evEs : List CE → Store → Option (Out (List TV))
  | [], _ => some (.ok [])
  | e :: r, σ => ebind (evE e σ) fun v => ebind (evEs r σ) fun vs => some (.ok (v :: vs))
noncomputable def evF : Str → List CE → Store → Option (Out Str)
  | acc, [], _ => some (.ok acc)
  | acc, e :: r, σ => ebind (evE e σ) fun v => match v with
    | .val (.str s) => if acc.length + s.length ≤ strTop then evF (acc ++ s) r σ else none
    | _ => none
noncomputable def evBs : Bool → List CE → Store → Option (Out TV)
  | _, [], _ => none
  | isAnd, e :: r, σ => match r with
    | [] => evE e σ
    | _ :: _ => ebind (evE e σ) fun v => match truth v with
      | some b => if b = isAnd then evBs isAnd r σ else some (.ok v)
      | none => none
noncomputable def evT : CE → Store → Option (Out Bool)
  | .not a, σ => ebind (evT a σ) fun b => some (.ok (!b))
  | .boolop isAnd es, σ => evTs isAnd es σ
  | .ife t a b, σ => ebind (evT t σ) fun c => if c = true then evT a σ else evT b σ
  | .lit d, _ => lift (truth (.val d))
  | .var i, σ => lift ((sget σ i).bind fun v => truth (view v))
  | .cmp op a b, σ => ebind (evE a σ) fun x => ebind (evE b σ) fun y => lift (cmpop op x y)
  | .cmp2 o1 o2 a b c, σ => ebind (evE a σ) fun x => ebind (evE b σ) fun y => match cmpop o1 x y with
    | some true => ebind (evE c σ) fun z => lift (cmpop o2 y z)
    | some false => some (.ok false)
    | none => none
  | .call f es, σ => ebind (evEs es σ) fun vs => ebind (Φ f vs) fun x => lift (truth x)
  | .starts a b, σ => ebind (evE a σ) fun x => if isStr x then ebind (evE b σ) fun y => lift ((startsop x y).bind truth) else none
  | _, _ => none
noncomputable def evTs : Bool → List CE → Store → Option (Out Bool)
  | isAnd, [], _ => some (.ok isAnd)
  | isAnd, e :: r, σ => ebind (evT e σ) fun b => if b = isAnd then evTs isAnd r σ else some (.ok b)
end

noncomputable def forP (body : PyData → Store → Option (Out (SO Store))) : List PyData → Store → Option (Out (SO Store))
  | [], σ => some (.ok (.next σ))
  | d :: r, σ => match body d σ with
    | some (.ok (.next σ')) => forP body r σ'
    | x => x
noncomputable def sbindQ (x : Option (Out (SO Store))) (g : Store → Option (Out (SO Store))) : Option (Out (SO Store)) := match x with
  | some (.ok (.next σ')) => g σ'
  | x => x
noncomputable def loopP (t : Store → Option (Out Bool)) (body : Store → Option (Out (SO Store))) : Nat → Store → Option (Out (SO Store))
  | 0, _ => none
  | n + 1, σ => ebind (t σ) fun b => if b = true then sbindQ (body σ) (loopP t body n) else some (.ok (.next σ))

noncomputable def range (n : Int) : List PyData := (List.range n.toNat).map fun (i : Nat) => PyData.int (i : Int)
noncomputable def chars (s : Str) : List PyData := s.cps.toList.map fun c => .str ⟨#[c]⟩
noncomputable def evIt : CIt → Store → Option (Out (List PyData))
  | .rng e, σ => ebind (evE Φ e σ) fun v => match v with
    | .val (.int n) => if n.natAbs ≤ 1000000 then some (.ok (range n)) else none
    | _ => none
  | .val e, σ => ebind (evE Φ e σ) fun v => match v with
    | .val (.tuple xs) => some (.ok xs)
    | .val (.str s) => if s.length ≤ strTop then some (.ok (chars s)) else none
    | _ => none

noncomputable def items (n : Nat) : PyData → Option (List PyData)
  | .tuple xs => if xs.length = n then some xs else none
  | _ => none

variable (N : Nat)
mutual
noncomputable def evS : CS → Store → Option (Out (SO Store))
  | .assign i e, σ => ebind (evE Φ e σ) fun v => if keepable v then some (.ok (.next (sset σ i v))) else none
  | .assignT is e, σ => ebind (evE Φ e σ) fun v => match v with
    | .val d => lift ((items is.length d).map fun ds => .next (ssetAll σ is ds))
    | _ => none
  | .aug op i e, σ => match sget σ i with
    | some (.val (.int a)) => ebind (evE Φ e σ) fun v => match op, v with
      | .Add, .val (.int b) => some (.ok (.next (sset σ i (.val (.int (a + b))))))
      | .Sub, .val (.int b) => some (.ok (.next (sset σ i (.val (.int (a - b))))))
      | _, _ => none
    | _ => none
  | .ite t a b, σ => ebind (evT Φ t σ) fun c => if c = true then evSs a σ else evSs b σ
  | .loop t b, σ => loopP (evT Φ t) (evSs b) N σ
  | .for1 i it b, σ => ebind (evIt Φ it σ) fun xs => forP (fun d σ => evSs b (sset σ i (.val d))) xs σ
  | .forT is it b, σ => ebind (evIt Φ it σ) fun xs => forP (fun d σ => match items is.length d with
    | some ds => evSs b (ssetAll σ is ds)
    | none => none) xs σ
  | .ret e, σ => ebind (evE Φ e σ) fun v => some (.ok (.ret (view v)))
  | .retNone, _ => some (.ok (.ret (.val .none)))
  | .raise e, σ => ebind (evE Φ e σ) fun v => match v with
    | .exc t ec => some (.exc t ec)
    | _ => none
  | .append i e, σ => match sget σ i with
    | some (.own xs) => ebind (evE Φ e σ) fun v => match v with
      | .val d => if flat d && okSize xs.length then some (.ok (.next (sset σ i (.own (xs ++ [d]))))) else none
      | _ => none
    | _ => none
  | .drop e, σ => ebind (evE Φ e σ) fun v => match v with
    | .val .none => some (.ok (.next σ))
    | _ => none
  | .catch b, σ => match evSs b σ with
    | some (.exc t ec) => some (.ok (.ret (.val (.tuple [.int 1, .str t, ec]))))
    | x => x
  | .stuck, _ => none
noncomputable def evSs : List CS → Store → Option (Out (SO Store))
  | [], σ => some (.ok (.next σ))
  | s :: r, σ => match evS s σ with
    | some (.ok (.next σ')) => evSs r σ'
    | x => x
end

noncomputable def runFn (c : CFn) (args : List TV) : Option (Out TV) :=
  if args.length = c.np ∧ (args.all fun v => match v with | .val _ => true | _ => false) then
    match evSs Φ N c.body (args.map some ++ List.replicate (c.nm.length - c.np) none) with
    | some (.ok (.ret v)) => some (.ok v)
    | some (.ok (.next _)) => some (.ok (.val .none))
    | some (.exc t e) => some (.exc t e)
    | none => none
  else none
end

noncomputable def errorP : List TV → Option (Out TV)
  | [.val (.str t)] => some (.ok (.exc t (.tuple [.str (Str.ofString "NONE")])))
  | [.val (.str t), .val (.tuple ec)] => if flats ec then some (.ok (.exc t (.tuple ec))) else none
  | _ => none

noncomputable def fidError : Nat := 0
noncomputable def evCall (tbl : Nat → Option CFn) (N : Nat) : Nat → Nat → List TV → Option (Out TV)
  | 0, _, _ => none
  | d + 1, i, args => if i = fidError then errorP args else match tbl i with
    | some c => runFn (evCall tbl N d) N c args
    | none => none


section
variable (sc : Scope) (nm : List Str) (fn : Str → Option Nat)

noncomputable def glb (x : Str) (y : String) : Bool := x == Str.ofString y && x != Str.ofString "__debug__" && sc.names.lookup x == some .globalImplicit
noncomputable def cEs (f : Expr → Option CE) : List Expr → Option (List CE)
  | [] => some []
  | e :: r => if isStarred e then none else (f e).bind fun a => (cEs f r).map (a :: ·)
noncomputable def cPart (f : Expr → Option CE) : Expr → Option CE
  | .Constant c _ _ => (match c with
    | .str s => some (.lit (.str s))
    | _ => none)
  | .FormattedValue v k sp _ => if k == -1 && sp.isNone then f v else none
  | _ => none
noncomputable def cParts (f : Expr → Option CE) : List Expr → Option (List CE)
  | [] => some []
  | e :: r => (cPart f e).bind fun a => (cParts f r).map (a :: ·)
noncomputable def isName : Expr → Bool
  | .Name .. => true
  | _ => false
noncomputable def isBase : Expr → Bool
  | .Name .. => true
  | .Constant .. => true
  | _ => false
noncomputable def idOf : Expr → Option Str
  | .Name x _ => some x
  | _ => none
theorem idOf_inv {e : Expr} {x : Str} (h : idOf e = some x) : ∃ p, e = .Name x p := by
  unfold idOf at h
  split at h
  · cases h; exact ⟨_, rfl⟩
  · cases h
noncomputable def one? {α : Type} : List α → Option α
  | [] => none
  | a :: r => (match r with
    | [] => some a
    | _ :: _ => none)
theorem one_inv {α : Type} {l : List α} {a : α} (h : one? l = some a) : l = [a] := by
  cases l with
  | nil => cases h
  | cons b r =>
    cases r with
    | nil => cases h; rfl
    | cons _ _ => cases h
noncomputable def two? {α : Type} : List α → Option (α × α)
  | [] => none
  | a :: r => (one? r).map fun b => (a, b)
theorem two_inv {α : Type} {l : List α} {a : α × α} (h : two? l = some a) : l = [a.1, a.2] := by
  cases l with
  | nil => cases h
  | cons b r =>
    obtain ⟨c, h1, rfl⟩ := map_inv h
    exact congrArg (b :: ·) (one_inv h1)
noncomputable def isSlice : Expr → Bool
  | .Slice .. => true
  | _ => false
noncomputable def slice3? : Expr → Option (Expr × Expr)
  | .Slice lo hi st _ => if st.isNone then lo.bind fun lo => hi.map fun hi => (lo, hi) else none
  | _ => none
theorem isNone_inv {α : Type} {x : Option α} (h : x.isNone = true) : x = none := by cases x <;> first | rfl | cases h
theorem slice3_inv {e : Expr} {q : Expr × Expr} (h : slice3? e = some q) : ∃ p, e = .Slice (some q.1) (some q.2) none p := by
  unfold slice3? at h
  split at h
  · obtain ⟨h1, h2⟩ := ite_inv h
    obtain ⟨a, h3, h4⟩ := bind_inv h2
    obtain ⟨b, h5, rfl⟩ := map_inv h4
    subst h3 h5
    obtain rfl := isNone_inv h1
    exact ⟨_, rfl⟩
  · cases h
noncomputable def cConst : Const → Option CE
  | .none => some (.lit .none)
  | .bool b => some (.lit (.bool b))
  | .int i => some (.lit (.int i))
  | .str s => some (.lit (.str s))
  | _ => none
noncomputable def cUn : UnaryOp → CE → Option CE
  | .Not, x => some (.not x)
  | .USub, x => some (.neg x)
  | .Invert, x => some (.inv x)
  | .UAdd, _ => none
noncomputable def isAndB : BoolOp → Bool
  | .And => true
  | .Or => false
noncomputable def cCmp (f : Expr → Option CE) (l : Expr) (ops : List CmpOp) (cs : List Expr) : Option CE := alt (one? ops) (fun op => (one? cs).bind fun r => if behindInMarks op r then none else (f l).bind fun a => (f r).map fun b => .cmp op a b)
  <| (two? ops).bind fun o => (two? cs).bind fun c => if behindInMarks o.2 c.2 then none else (f l).bind fun a => (f c.1).bind fun b => (f c.2).map fun c => .cmp2 o.1 o.2 a b c
noncomputable def cSub (f : Expr → Option CE) (v i : Expr) : Option CE := if isSlice i then (slice3? i).bind fun q => if isName v then (f v).bind fun a => (f q.1).bind fun x => (f q.2).map fun y => .slice a x y else none
  else (f v).bind fun a => (f i).map fun x => .sub a x
noncomputable def cMeth (f : Expr → Option CE) (o : Expr) (m : Str) (as : List Expr) : Option CE := match as with
  | [] => if m == Str.ofString "lower" then (f o).map .lower else none
  | _ :: _ => (one? as).bind fun a => if m == Str.ofString "startswith" then (f o).bind fun x => (f a).map fun y => .starts x y
    else if m == Str.ofString "join" then (f o).bind fun x => (f a).map fun y => .join x y
    else none
noncomputable def cBlt1 (g : Str) (x : CE) : Option CE := if g == Str.ofString "len" then some (.len x) else if g == Str.ofString "ord" then some (.ord x) else if g == Str.ofString "abs" then some (.abs x) else if g == Str.ofString "str" then some (.tostr x) else none
noncomputable def cBlt2 (g : Str) (x y : CE) : Option CE := if g == Str.ofString "min" then some (.min2 x y) else if g == Str.ofString "max" then some (.max2 x y) else none
noncomputable def cCall (f : Expr → Option CE) (g : Str) (as : List Expr) : Option CE := alt (fn g) (fun i => (cEs f as).map (.call i)) (alt (one? as) (fun a => (f a).bind (cBlt1 g)) ((two? as).bind fun q => (f q.1).bind fun x => (f q.2).bind fun y => cBlt2 g x y))
noncomputable def attr? : Expr → Option (Expr × Str × Pos)
  | .Attribute o m ap => some (o, m, ap)
  | _ => none
theorem attr_inv {e : Expr} {q : Expr × Str × Pos} (h : attr? e = some q) : e = .Attribute q.1 q.2.1 q.2.2 := by
  unfold attr? at h
  split at h
  · cases h; rfl
  · cases h
noncomputable def cApp (f : Expr → Option CE) (g : Expr) (as : List Expr) (ks : List Keyword) (p : Pos) : Option CE := if ks.isEmpty then alt (attr? g) (fun q => if isBase q.1 && q.2.2.endLine == p.line then cMeth f q.1 q.2.1 as else none)
    ((idOf g).bind fun g => if sc.names.lookup g == some .globalImplicit && g != Str.ofString "__debug__" then cCall fn f g as else none) else none
noncomputable def cE : Nat → Expr → Option CE
  | 0, _ => none
  | n + 1, e => match e with
    | .Constant c _ _ => cConst c
    | .Name x _ => if x == Str.ofString "__debug__" then none else (nm.idxOf? x).map .var
    | .BinOp l op r _ => (cE n l).bind fun a => (cE n r).map fun b => .bin op a b
    | .UnaryOp op x _ => (cE n x).bind (cUn op)
    | .BoolOp op vs _ => (cEs (cE n) vs).map (.boolop (isAndB op))
    | .Compare l ops cs _ => cCmp (cE n) l ops cs
    | .IfExp t b o _ => (cE n t).bind fun x => (cE n b).bind fun y => (cE n o).map fun z => .ife x y z
    | .Tuple es _ _ => (cEs (cE n) es).map .tup
    | .List es _ => (cEs (cE n) es).map .lst
    | .Subscript v i _ => cSub (cE n) v i
    | .JoinedStr vs _ => if vs.length ≤ 1 then none else (cParts (cE n) vs).map .fstr
    | .Call g as ks p => cApp sc fn (cE n) g as ks p
    | _ => none
noncomputable def rngArg? : Expr → Option (Str × Expr)
  | .Call g as ks _ => if ks.isEmpty then (idOf g).bind fun x => (one? as).map fun a => (x, a) else none
  | _ => none
theorem rngArg_inv {e : Expr} {q : Str × Expr} (h : rngArg? e = some q) : ∃ p p', e = .Call (.Name q.1 p) [q.2] [] p' := by
  unfold rngArg? at h
  split at h
  · obtain ⟨h1, h2⟩ := ite_inv h
    obtain ⟨x, h3, h4⟩ := bind_inv h2
    obtain ⟨a, h5, rfl⟩ := map_inv h4
    obtain ⟨q, rfl⟩ := idOf_inv h3
    obtain rfl := one_inv h5
    obtain rfl := List.isEmpty_iff.mp h1
    exact ⟨_, _, rfl⟩
  · cases h
noncomputable def cIt (n : Nat) (e : Expr) : Option CIt := alt (rngArg? e) (fun q => if glb sc q.1 "range" && (fn q.1).isNone then (cE sc nm fn n q.2).map .rng else (cE sc nm fn n e).map .val) ((cE sc nm fn n e).map .val)
noncomputable def cNames : List Expr → Option (List Nat)
  | [] => some []
  | e :: r => (idOf e).bind fun x => (nm.idxOf? x).bind fun i => (cNames r).map (i :: ·)
noncomputable def plainValue : Expr → Bool
  | .ListComp .. | .SetComp .. | .DictComp .. => false
  | _ => true
noncomputable def swOK : Expr → Bool
  | .Tuple vs _ _ => !(vs.all (constantsAlone 8)) || vs.all (foldedForSure 8)
  | _ => true
noncomputable def cSs (f : Stmt → Option CS) : List Stmt → Option (List CS)
  | [] => some []
  | e :: r => (f e).bind fun a => (cSs f r).map (a :: ·)
noncomputable def isAttrOf (n : Str) (a : String) : Expr → Bool
  | .Attribute (.Name x _) y _ => x == n && y == Str.ofString a
  | _ => false
noncomputable def tupE? : Expr → Option (List Expr)
  | .Tuple es _ _ => some es
  | _ => none
theorem tupE_inv {e : Expr} {es : List Expr} (h : tupE? e = some es) : ∃ k p, e = .Tuple es k p := by
  unfold tupE? at h
  split at h
  · cases h; exact ⟨_, _, rfl⟩
  · cases h
noncomputable def retV? : Stmt → Option (Option Expr)
  | .Return v _ => some v
  | _ => none
theorem retV_inv {s : Stmt} {v : Option Expr} (h : retV? s = some v) : ∃ p, s = .Return v p := by
  unfold retV? at h
  split at h
  · cases h; exact ⟨_, rfl⟩
  · cases h
noncomputable def three? : List Expr → Option (Expr × Expr × Expr)
  | [] => none
  | a :: r => (two? r).map fun q => (a, q)
theorem three_inv {es : List Expr} {q : Expr × Expr × Expr} (h : three? es = some q) : es = [q.1, q.2.1, q.2.2] := by
  cases es with
  | nil => cases h
  | cons a r =>
    obtain ⟨q, h2, rfl⟩ := map_inv h
    obtain rfl := two_inv h2
    rfl
noncomputable def ret3? (s : Stmt) : Option (Expr × Expr × Expr) := (retV? s).bind fun v => v.bind fun e => (tupE? e).bind three?
theorem ret3_inv {s : Stmt} {q : Expr × Expr × Expr} (h : ret3? s = some q) : ∃ k p p', s = .Return (some (.Tuple [q.1, q.2.1, q.2.2] k p)) p' := by
  obtain ⟨v, h1, h2⟩ := bind_inv h
  obtain ⟨e, rfl, h3⟩ := bind_inv h2
  obtain ⟨es, h4, h5⟩ := bind_inv h3
  obtain ⟨p', rfl⟩ := retV_inv h1
  obtain ⟨k, p, rfl⟩ := tupE_inv h4
  obtain rfl := three_inv h5
  exact ⟨_, _, _, rfl⟩
noncomputable def hdl1? : ExceptHandler → Option (Str × Str × Expr × Expr × Expr)
  | .ExceptHandler t n b _ => t.bind fun t => (idOf t).bind fun c => n.bind fun x => (one? b).bind fun s => (ret3? s).map fun a => (c, x, a)
theorem hdl1_inv {s : ExceptHandler} {q : Str × Str × Expr × Expr × Expr} (h : hdl1? s = some q) : ∃ p1 k p2 p3 p4, s = .ExceptHandler (some (.Name q.1 p1)) (some q.2.1) [.Return (some (.Tuple [q.2.2.1, q.2.2.2.1, q.2.2.2.2] k p2)) p3] p4 := by
  cases s with | ExceptHandler t n b p0 =>
  obtain ⟨t, h5, h6⟩ := bind_inv h
  obtain ⟨c, h1, h7⟩ := bind_inv h6
  obtain ⟨x, h8, h9⟩ := bind_inv h7
  obtain ⟨s, h2, h10⟩ := bind_inv h9
  obtain ⟨a, h3, rfl⟩ := map_inv h10
  subst h5 h8
  obtain ⟨p, rfl⟩ := idOf_inv h1
  obtain rfl := one_inv h2
  obtain ⟨k, p2, p3, rfl⟩ := ret3_inv h3
  exact ⟨_, _, _, _, _, rfl⟩
noncomputable def app? (g : Expr) (as : List Expr) (ks : List Keyword) : Option (Str × Str × Pos × Expr) := if ks.isEmpty then (attr? g).bind fun q => (idOf q.1).bind fun x => (one? as).map fun a => (x, q.2.1, q.2.2, a) else none
theorem app_inv {g : Expr} {as : List Expr} {ks : List Keyword} {q : Str × Str × Pos × Expr} (h : app? g as ks = some q) : ∃ p, g = .Attribute (.Name q.1 p) q.2.1 q.2.2.1 ∧ as = [q.2.2.2] ∧ ks = [] := by
  obtain ⟨h1, h⟩ := ite_inv h
  obtain ⟨r, h2, h⟩ := bind_inv h
  obtain ⟨x, h3, h⟩ := bind_inv h
  obtain ⟨a, h4, rfl⟩ := map_inv h
  obtain ⟨p, h5⟩ := idOf_inv h3
  have h2 := attr_inv h2
  rw [h5] at h2
  exact ⟨p, h2, one_inv h4, List.isEmpty_iff.mp h1⟩
noncomputable def cAsg (e : Option CE) (v t : Expr) : Option CS := match t with
  | .Name x _ => (nm.idxOf? x).bind fun i => e.map fun e => .assign i e
  | .Tuple ts _ _ => if swOK v then (cNames nm ts).bind fun is => e.bind fun e => if is.Nodup ∧ 2 ≤ is.length then some (.assignT is e) else none else none
  | _ => none
noncomputable def cFor (t : Expr) (e : CIt) (y : List CS) : Option CS := match t with
  | .Name x _ => (nm.idxOf? x).map fun i => .for1 i e y
  | .Tuple ts _ _ => (cNames nm ts).bind fun is => if is.Nodup then some (.forT is e y) else none
  | _ => none
noncomputable def cDo (f : Expr → Option CE) (e : Expr) : Option CS := match e with
  | .Call g as ks p => alt (app? g as ks) (fun q => if q.2.1 == Str.ofString "append" && q.2.2.1.endLine == p.line && !isStarred q.2.2.2 && q.1 != Str.ofString "__debug__" then (nm.idxOf? q.1).bind fun i => (f q.2.2.2).map fun e => .append i e else none) ((f e).map .drop)
  | _ => none
noncomputable def cRaise (e : Option CE) : CS := match e with
  | some e => .raise e
  | none => .stuck
noncomputable def cS : Nat → Stmt → Option CS
  | 0, _ => none
  | n + 1, s => match s with
    | .Assign ts v _ => if plainValue v then (one? ts).bind (cAsg nm (cE sc nm fn (n + 1) v) v) else none
    | .AugAssign t op v _ => (idOf t).bind fun x => (nm.idxOf? x).bind fun i => (cE sc nm fn (n + 1) v).map fun e => .aug op i e
    | .If t a b _ => (cE sc nm fn (n + 1) t).bind fun x => (cSs (cS n) a).bind fun y => (cSs (cS n) b).map fun z => .ite x y z
    | .While t b o _ => if o.isEmpty then (cE sc nm fn (n + 1) t).bind fun x => (cSs (cS n) b).map fun y => .loop x y else none
    | .For t it b o _ => if o.isEmpty then (cIt sc nm fn (n + 1) it).bind fun e => (cSs (cS n) b).bind (cFor nm t e) else none
    | .Return v _ => (match v with
      | some v => (cE sc nm fn (n + 1) v).map .ret
      | none => some .retNone)
    | .Raise v c _ => if c.isNone then v.map fun v => cRaise (cE sc nm fn (n + 1) v) else none
    | .Expr e _ => cDo nm (cE sc nm fn (n + 1)) e
    | .Try b hs o fl _ => if o.isEmpty && fl.isEmpty then ((one? hs).bind hdl1?).bind fun q =>
      if glb sc q.1 "Raised" && sc.names.lookup q.2.1 == some .local && isAttrOf q.2.1 "code" q.2.2.1 && isAttrOf q.2.1 "value" q.2.2.2.1 && isAttrOf q.2.1 "errorcode" q.2.2.2.2 then (cSs (cS n) b).map .catch else none else none
    | _ => none
end

noncomputable def localsOf (sc : Scope) : List Str := sc.names.filterMap fun p => if p.2 == .local then some p.1 else none
noncomputable def plainParams (a : Arguments) : Bool := a.posonlyargs.isEmpty && a.vararg.isNone && a.kwonlyargs.isEmpty && a.kw_defaults.isEmpty && a.kwarg.isNone && a.defaults.isEmpty
noncomputable def namesOf (a : Arguments) (sc : Scope) : List Str := let ps := a.args.map (·.arg); ps ++ (localsOf sc).filter fun x => !ps.contains x
noncomputable def compile (fn : Str → Option Nat) (d : DefRec) : Option CFn :=
  let nm := namesOf d.params d.scope
  if plainParams d.params && d.scope.kind == .function && !d.scope.isGenerator && !d.scope.isCoroutine && nm.Nodup && (nm.all fun x => d.scope.names.lookup x == some .local) && (d.scope.names.all fun x => x.2 != .cell) && d.scope.names.lookup (Str.ofString "__debug__") != some .local then
    (cSs (cS d.scope nm fn 40) d.body).map fun b => ⟨d.name, d.params.args.length, nm, b⟩
  else none


section
variable {Φ : Nat → List TV → Option (Out TV)} {N : Nat} {σ : Store}
theorem r_assign (i : Nat) (e : CE) : evS Φ N (.assign i e) σ = ebind (evE Φ e σ) fun v => if keepable v then some (.ok (.next (sset σ i v))) else none := rfl
theorem r_assignT (is : List Nat) (e : CE) : evS Φ N (.assignT is e) σ = ebind (evE Φ e σ) fun v => match v with
    | .val d => lift ((items is.length d).map fun ds => .next (ssetAll σ is ds))
    | _ => none := rfl
theorem r_aug (op : Operator) (i : Nat) (e : CE) : evS Φ N (.aug op i e) σ = match sget σ i with
    | some (.val (.int a)) => ebind (evE Φ e σ) fun v => match op, v with
      | .Add, .val (.int b) => some (.ok (.next (sset σ i (.val (.int (a + b))))))
      | .Sub, .val (.int b) => some (.ok (.next (sset σ i (.val (.int (a - b))))))
      | _, _ => none
    | _ => none := rfl
theorem r_ite (t : CE) (a b : List CS) : evS Φ N (.ite t a b) σ = ebind (evT Φ t σ) fun c => if c = true then evSs Φ N a σ else evSs Φ N b σ := rfl
theorem r_loop (t : CE) (b : List CS) : evS Φ N (.loop t b) σ = loopP (evT Φ t) (evSs Φ N b) N σ := rfl
theorem r_ret (e : CE) : evS Φ N (.ret e) σ = ebind (evE Φ e σ) fun v => some (.ok (.ret (view v))) := rfl
theorem r_retNone : evS Φ N .retNone σ = some (.ok (.ret (.val .none))) := rfl
theorem r_raise (e : CE) : evS Φ N (.raise e) σ = ebind (evE Φ e σ) fun v => match v with
    | .exc t ec => some (.exc t ec)
    | _ => none := rfl
theorem r_append (i : Nat) (e : CE) : evS Φ N (.append i e) σ = match sget σ i with
    | some (.own xs) => ebind (evE Φ e σ) fun v => match v with
      | .val d => if flat d && okSize xs.length then some (.ok (.next (sset σ i (.own (xs ++ [d]))))) else none
      | _ => none
    | _ => none := rfl
theorem r_drop (e : CE) : evS Φ N (.drop e) σ = ebind (evE Φ e σ) fun v => match v with
    | .val .none => some (.ok (.next σ))
    | _ => none := rfl
theorem r_catch (b : List CS) : evS Φ N (.catch b) σ = match evSs Φ N b σ with
    | some (.exc t ec) => some (.ok (.ret (.val (.tuple [.int 1, .str t, ec]))))
    | x => x := rfl
end
end NP
end
section
open PySem PySem.Calls PyProof.Rows PySem.W PySem.Spec
set_option maxRecDepth 100000
namespace NP


structure Wd where
  prog : Program
  w : World
  B0 : Heap
  mg : Str → Option Value
  mb : Str → Option Value
  CR : Addr

structure Rm (n : Nat) (A : Around) : Prop where
  hh : A.handled = none
  depth : A.depth + 8 * n + 50 < 1000
  units : A.units + 16 * n + 500 < 9900
theorem Rm.deeper {n : Nat} {A : Around} {env : Env} (r : Rm (n + 1) A) : Rm n (A.deeper env) :=
  ⟨r.hh, by have := r.depth; show A.depth + 1 + 8 * n + 50 < 1000; omega, by have := r.units; show A.units + 3 + 16 * n + 500 < 9900; omega⟩
theorem Rm.mono {n k : Nat} {A : Around} (r : Rm n A) (h : k ≤ n) : Rm k A := ⟨r.hh, by have := r.depth; omega, by have := r.units; omega⟩

noncomputable def XObj (CR : Addr) (hb h : Heap) (e : Addr) (t : Str) (ec : PyData) (tb : Value) : Prop :=
  ∃ D m vs sl ecv tk1 tk2 as, h.get? e = some ⟨.ref CR, some D, .fields vs, sl⟩ ∧ vs[1]? = some tb ∧ hb.get? e = none ∧ hb.get? D = none ∧ h.Ns1 D m ∧
    m "code" = some (.int 1 tk1) ∧ m "value" = some (.str t tk2) ∧ m "errorcode" = some ecv ∧ flat ec = true ∧ Reads h ecv ec as
noncomputable def XS (CR L : Addr) (hb h : Heap) (e : Addr) (t : Str) (ec : PyData) : Prop :=
  XObj CR hb h e t ec .none ∨ ∃ T fl oT ts, XObj CR hb h e t ec (.ref T) ∧ T ≠ e ∧ hb.get? T = none ∧ h.get? T = some oT ∧ oT.data = .fields ts ∧ ts[3]? = some fl ∧ (fl = .none ∨ fl = rawInt L)
noncomputable def Fly (CR : Addr) (hb h : Heap) (e : Addr) (t : Str) (ec : PyData) : Prop :=
  ∃ T oT ts, XObj CR hb h e t ec (.ref T) ∧ T ≠ e ∧ hb.get? T = none ∧ h.get? T = some oT ∧ oT.data = .fields ts ∧ ts[3]? = some .none
theorem Fly.xs {CR : Addr} {hb h : Heap} {e : Addr} {t : Str} {ec : PyData} (L : Addr) (x : Fly CR hb h e t ec) : XS CR L hb h e t ec :=
  by obtain ⟨T, oT, ts, a, b, c, d, f, g⟩ := x; exact .inr ⟨T, .none, oT, ts, a, b, c, d, f, g, .inl rfl⟩
theorem XObj.birth {CR : Addr} {hb hb' h : Heap} {e : Addr} {t : Str} {ec : PyData} {tb : Value} (x : XObj CR hb h e t ec tb) (k : ∀ b, hb.get? b = none → hb'.get? b = none) : XObj CR hb' h e t ec tb :=
  by obtain ⟨D, m, vs, sl, ecv, t1, t2, as, a1, a2, a3, a4, r⟩ := x; exact ⟨D, m, vs, sl, ecv, t1, t2, as, a1, a2, k _ a3, k _ a4, r⟩
theorem XS.birth {CR L : Addr} {hb hb' h : Heap} {e : Addr} {t : Str} {ec : PyData} (x : XS CR L hb h e t ec) (k : ∀ b, hb.get? b = none → hb'.get? b = none) : XS CR L hb' h e t ec := by
  rcases x with x | ⟨T, fl, oT, ts, a, b, c, r⟩
  · exact .inl (x.birth k)
  · exact .inr ⟨T, fl, oT, ts, a.birth k, b, k _ c, r⟩

noncomputable def LstAt (h : Heap) (v : Value) (xs : List PyData) : Prop := ∃ a vs as, v = .ref a ∧ PlainL h a vs.toArray ∧ ReadsAll h vs xs as
theorem LstAt.reads {h : Heap} {v : Value} {xs : List PyData} (x : LstAt h v xs) : ∃ as, Reads h v (.list xs) as := by
  obtain ⟨a, vs, as, rfl, ⟨o, n, e, c, _, d⟩, r⟩ := x
  exact ⟨_, .list e c d r⟩
theorem plainL_up {h h' : Heap} {a : Addr} {its : Array Value} (k : ∀ o, h.get? a = some o → ∃ sl, h'.get? a = some { o with slots := sl }) (x : PlainL h a its) : PlainL h' a its := by
  obtain ⟨o, n, e, c, d, r⟩ := x
  obtain ⟨sl, q⟩ := k o e
  exact ⟨_, n, q, c, d, r⟩
theorem LstAt.up {h h' : Heap} {v : Value} {xs : List PyData} (k : ∀ b o, h.get? b = some o → ∃ sl, h'.get? b = some { o with slots := sl }) (x : LstAt h v xs) : LstAt h' v xs := by
  obtain ⟨a, vs, as, e, p, r⟩ := x
  exact ⟨a, vs, as, e, plainL_up (k a) p, readsAll_up k r⟩

noncomputable def okd (d : PyData) : Prop := flat d = true ∨ ∃ xs, d = .list xs ∧ flats xs = true
noncomputable def VRd (h : Heap) (v : Value) : TV → Prop
  | .val d => okd d ∧ ∃ as, Reads h v d as
  | .own xs => flats xs = true ∧ LstAt h v xs
  | .exc .. => True
noncomputable def TR (CR : Addr) (hb h : Heap) (v : Value) : TV → Prop
  | .val d => okd d ∧ ∃ as, Reads h v d as
  | .own xs => flats xs = true ∧ LstAt h v xs ∧ ∃ a, v = .ref a ∧ hb.get? a = none
  | .exc t ec => ∃ e, v = .ref e ∧ XObj CR hb h e t ec .none
theorem TR.vrd {CR : Addr} {hb h : Heap} {v : Value} {tv : TV} (x : TR CR hb h v tv) : VRd h v tv := by
  cases tv with
  | val d => exact x
  | own xs => exact ⟨x.1, x.2.1⟩
  | exc t ec => trivial
theorem TR.birth {CR : Addr} {hb hb' h : Heap} {v : Value} {tv : TV} (x : TR CR hb h v tv) (k : ∀ b, hb.get? b = none → hb'.get? b = none) : TR CR hb' h v tv := by
  cases tv with
  | val d => exact x
  | own xs => obtain ⟨a, b, c, d, e⟩ := x; exact ⟨a, b, c, d, k _ e⟩
  | exc t ec => obtain ⟨e, a, b⟩ := x; exact ⟨e, a, b.birth k⟩
theorem VRd.up {h h' : Heap} {v : Value} {tv : TV} (k : ∀ b o, h.get? b = some o → ∃ sl, h'.get? b = some { o with slots := sl }) (x : VRd h v tv) : VRd h' v tv := by
  cases tv with
  | val d => exact ⟨x.1, let ⟨as, r⟩ := x.2; ⟨as, reads_up k r⟩⟩
  | own xs => exact ⟨x.1, x.2.up k⟩
  | exc t ec => trivial
noncomputable def VRds (h : Heap) : List Value → List TV → Prop
  | [], [] => True
  | v :: vs, t :: ts => VRd h v t ∧ VRds h vs ts
  | _, _ => False
theorem VRds.up {h h' : Heap} (k : ∀ b o, h.get? b = some o → ∃ sl, h'.get? b = some { o with slots := sl }) : ∀ {vs : List Value} {ts : List TV}, VRds h vs ts → VRds h' vs ts
  | [], [], _ => trivial
  | _ :: _, _ :: _, ⟨a, b⟩ => ⟨a.up k, VRds.up k b⟩
theorem VRds.length {h : Heap} : ∀ {vs : List Value} {ts : List TV}, VRds h vs ts → vs.length = ts.length
  | [], [], _ => rfl
  | _ :: _, _ :: _, ⟨_, b⟩ => congrArg (· + 1) b.length
theorem VRds.get {h : Heap} : ∀ {vs : List Value} {ts : List TV}, VRds h vs ts → ∀ {i : Nat} {t : TV}, ts[i]? = some t → ∃ v, vs[i]? = some v ∧ VRd h v t
  | [], [], _, i, t, e => by simp at e
  | v :: vs, t :: ts, ⟨a, b⟩, 0, t', e => by simp at e; subst e; exact ⟨v, rfl, a⟩
  | v :: vs, t :: ts, ⟨a, b⟩, i + 1, t', e => by
    obtain ⟨w, p, q⟩ := VRds.get b (i := i) (by simpa using e)
    exact ⟨w, by simpa using p, q⟩

noncomputable def SR (h₀ h : Heap) (v : Value) : TV → Prop
  | .val d => okd d ∧ ∃ as, Reads h v d as
  | .own xs => flats xs = true ∧ LstAt h v xs ∧ ∃ a, v = .ref a ∧ h₀.get? a = none
  | .exc .. => False
theorem SR.vrd {h₀ h : Heap} {v : Value} {tv : TV} (x : SR h₀ h v tv) : VRd h v tv := by
  cases tv with
  | val d => exact x
  | own xs => exact ⟨x.1, x.2.1⟩
  | exc t ec => trivial
theorem SR.up {h₀ h h' : Heap} {v : Value} {tv : TV} (k : ∀ b o, h.get? b = some o → ∃ sl, h'.get? b = some { o with slots := sl }) (x : SR h₀ h v tv) : SR h₀ h' v tv := by
  cases tv with
  | val d => exact ⟨x.1, let ⟨as, r⟩ := x.2; ⟨as, reads_up k r⟩⟩
  | own xs => exact ⟨x.1, x.2.1.up k, x.2.2⟩
  | exc t ec => exact x


structure Fm where
  L : Addr
  f : Addr
  qual : Str
  sc : Scope
  cd : Value
  h₀ : Heap
  envs : List Env
  nm : List Str
noncomputable def Fm.env (C : Fm) : Env := envOf C.qual C.sc C.L C.f C.cd
noncomputable def Fm.fr (C : Fm) : List Addr := C.L :: frs C.envs

structure FS (W : Wd) (C : Fm) : Prop where
  kind : C.sc.kind = .function
  loc : ∀ x ∈ C.nm, C.sc.names.lookup x = some .local
  nodup : C.nm.Nodup
  base : W.B0.StaysIn C.h₀
  frames : C.h₀.FunFrames W.B0 C.envs
  new : C.h₀.get? C.L = none

structure Loc (C : Fm) (h : Heap) (m : Str → Option Value) (σ : Store) : Prop where
  has : ∀ i tv, sget σ i = some tv → ∃ x v, C.nm[i]? = some x ∧ m x = some v ∧ SR C.h₀ h v tv
  sep : ∀ i xs, sget σ i = some (.own xs) → ∀ x a, C.nm[i]? = some x → m x = some (.ref a) → ∀ j y tv, j ≠ i → sget σ j = some tv → C.nm[j]? = some y → m y ≠ some (.ref a)
structure FI (C : Fm) (h : Heap) (σ : Store) : Prop where
  grow : Grow (frs C.envs) C.h₀ h
  ns : ∃ m, h.Ns C.L m ∧ Loc C h m σ

section
variable {W : Wd} {C : Fm} {h h' : Heap} {σ : Store}
theorem FS.newB (S : FS W C) : W.B0.get? C.L = none := by
  cases q : W.B0.get? C.L with
  | none => rfl
  | some o => have := S.base _ _ q; rw [S.new] at this; cases this
theorem FS.stays (S : FS W C) (g : Grow (frs C.envs) C.h₀ h) : W.B0.StaysIn h := g.stays S.base (frs_none S.frames)
theorem FS.frames' (S : FS W C) (g : Grow (frs C.envs) C.h₀ h) {m : Str → Option Value} (n : h.Ns C.L m) : h.FunFrames W.B0 (C.env :: C.envs) :=
  .cons (by show C.sc.kind ≠ .module; rw [S.kind]; decide) rfl n S.newB (g.funFrames S.frames)
theorem Fm.frs (C : Fm) : frs (C.env :: C.envs) = C.fr := rfl
theorem FI.frames (S : FS W C) (I : FI C h σ) : h.FunFrames W.B0 (C.env :: C.envs) := let ⟨_, n, _⟩ := I.ns; S.frames' I.grow n
theorem FI.stays (S : FS W C) (I : FI C h σ) : W.B0.StaysIn h := S.stays I.grow
theorem FI.old (I : FI C h σ) {b : Addr} (e : h.get? b = none) : C.h₀.get? b = none := by
  cases q : C.h₀.get? b with
  | none => rfl
  | some o => obtain ⟨_, sl, r⟩ := I.grow b o q; rw [e] at r; cases r
theorem Loc.up {m : Str → Option Value} (k : ∀ b o, h.get? b = some o → ∃ sl, h'.get? b = some { o with slots := sl }) (l : Loc C h m σ) : Loc C h' m σ :=
  ⟨fun i tv e => let ⟨x, v, a, b, c⟩ := l.has i tv e; ⟨x, v, a, b, c.up k⟩, l.sep⟩
theorem FI.step (S : FS W C) (I : FI C h σ) (g : Grow C.fr h h') : FI C h' σ :=
  ⟨I.grow.drop g S.new, let ⟨m, n, l⟩ := I.ns; ⟨m, g.ns n, l.up g.up⟩⟩
end
theorem Grow.none {fr : List Addr} {h h' : Heap} (g : Grow fr h h') {b : Addr} (e : h'.get? b = none) : h.get? b = none := by
  cases q : h.get? b with
  | none => rfl
  | some o => obtain ⟨_, sl, r⟩ := g b o q; rw [e] at r; cases r


noncomputable def PE {α : Type} (W : Wd) (C : Fm) (s : Shared) (K : α → Prop) (E : Value → Shared → Prop) : Option (Out α) → Prop
  | some (.ok a) => K a
  | some (.exc t ec) => ∀ e h' tk, Grow C.fr s.heap h' → XS W.CR C.L s.heap h' e t ec → E (.ref e) { s with heap := h', toks := tk }
  | none => False
noncomputable def KE (W : Wd) (C : Fm) (s : Shared) (Q : Value → Shared → Prop) (tv : TV) : Prop :=
  ∀ v h' tk, Grow C.fr s.heap h' → TR W.CR s.heap h' v tv → Q v { s with heap := h', toks := tk }
noncomputable def PC (W : Wd) (envs : List Env) (s : Shared) (Q : Value → Shared → Prop) (E : Value → Shared → Prop) : Option (Out TV) → Prop
  | some (.ok tv) => ∀ v h' tk, Grow (frs envs) s.heap h' → TR W.CR s.heap h' v tv → Q v { s with heap := h', toks := tk }
  | some (.exc t ec) => ∀ e h' tk, Grow (frs envs) s.heap h' → Fly W.CR s.heap h' e t ec → E (.ref e) { s with heap := h', toks := tk }
  | none => False
noncomputable def CallOK (W : Wd) (d : Nat) (f : Value) (args : List TV) (r : Option (Out TV)) : Prop :=
  ∀ A envs s vs Q E, A.frames = some envs → Rm d A → W.B0.StaysIn s.heap → s.heap.FunFrames W.B0 envs → VRds s.heap vs args → PC W envs s Q E r →
    wpAny (model W.prog W.w) A (call f vs) Q E s
noncomputable def Calls (W : Wd) (fn : Str → Option Nat) (d : Nat) (Φ : Nat → List TV → Option (Out TV)) : Prop :=
  ∀ x i, fn x = some i → ∃ a o fd, W.mg x = some (.ref a) ∧ W.B0.get? a = some o ∧ o.data = .func fd ∧ ∀ args, CallOK W d (.ref a) args (Φ i args)

theorem PE.bind {α β : Type} {W : Wd} {C : Fm} {s : Shared} {K : β → Prop} {E : Value → Shared → Prop} {x : Option (Out α)} {f : α → Option (Out β)} (p : PE W C s K E (ebind x f)) :
    PE W C s (fun a => PE W C s K E (f a)) E x := by
  cases x with
  | none => exact p
  | some o => cases o <;> exact p
theorem PE.mono {α : Type} {W : Wd} {C : Fm} {s : Shared} {K K' : α → Prop} {E : Value → Shared → Prop} {x : Option (Out α)} (p : PE W C s K E x) (k : ∀ a, K a → K' a) : PE W C s K' E x := by
  cases x with
  | none => exact p
  | some o => cases o with
    | ok a => exact k a p
    | exc t ec => exact p
theorem PE.lift {α : Type} {W : Wd} {C : Fm} {s : Shared} {K : α → Prop} {E : Value → Shared → Prop} {x : Option α} (p : PE W C s K E (lift x)) : ∃ a, x = some a ∧ K a := by
  cases x with
  | none => exact p.elim
  | some a => exact ⟨a, rfl, p⟩
theorem PE.move {α : Type} {W : Wd} {C : Fm} {s : Shared} {K : α → Prop} {E : Value → Shared → Prop} {x : Option (Out α)} {h' : Heap} {tk : Nat} (g : Grow C.fr s.heap h')
    (p : PE W C s K E x) : PE W C { s with heap := h', toks := tk } K E x := by
  cases x with
  | none => exact p
  | some o => cases o with
    | ok a => exact p
    | exc t ec => exact fun e h'' tk' g' y => p e h'' tk' (g.trans g') (y.birth fun _ q => g.none q)
theorem KE.move {W : Wd} {C : Fm} {s : Shared} {Q : Value → Shared → Prop} {tv : TV} {h' : Heap} {tk : Nat} (g : Grow C.fr s.heap h') (p : KE W C s Q tv) : KE W C { s with heap := h', toks := tk } Q tv :=
  fun v h'' tk' g' y => p v h'' tk' (g.trans g') (y.birth fun _ q => g.none q)

end NP
end
section
open PySem PySem.Calls PyProof.Rows PySem.W PySem.Spec
set_option maxRecDepth 100000
namespace NP


noncomputable def OpK (W : Wd) (s : Shared) (Q : Value → Shared → Prop) (tv : TV) : Prop :=
  ∀ v h' tk, s.heap.StaysIn h' → TR W.CR s.heap h' v tv → Q v { s with heap := h', toks := tk }
theorem stays_refl (h : Heap) : h.StaysIn h := fun _ _ e => e
theorem stays_push (h : Heap) (o : Obj) : h.StaysIn (h.push o) := fun _ _ e => Heap.get?_push_of_some o e

theorem reads_newList {h : Heap} {vs : List Value} {xs : List PyData} {as : List Addr} (ra : ReadsAll h vs xs as) {items : Array Value} (e : items.toList = vs) :
    Reads (h.push { cls := .type "list", data := .seq items }) (.ref h.objs.size) (.list xs) (h.objs.size :: as) :=
  .list (Heap.get?_push_size _ rfl) rfl rfl (e ▸ ReadsAll.keeps (stays_push h _) ra)
theorem lst_new {h : Heap} {vs : List Value} {xs : List PyData} {as : List Addr} (ra : ReadsAll h vs xs as) {items : Array Value} (e : items.toList = vs) :
    LstAt (h.push { cls := .type "list", data := .seq items }) (.ref h.objs.size) xs :=
  ⟨_, vs, as, rfl, ⟨_, _, Heap.get?_push_size _ rfl, rfl, rfl, by rw [← e]⟩, ReadsAll.keeps (stays_push h _) ra⟩
theorem reads_newTuple {h : Heap} {vs : List Value} {xs : List PyData} {as : List Addr} (ra : ReadsAll h vs xs as) {items : Array Value} (e : items.toList = vs) :
    Reads (h.push { cls := .type "tuple", data := .seq items }) (.ref h.objs.size) (.tuple xs) as :=
  .tuple (Heap.get?_push_size _ rfl) rfl rfl (e ▸ ReadsAll.keeps (stays_push h _) ra)

section
variable {h : Heap} {v : Value}
theorem vrd_int {i : Int} (x : VRd h v (.val (.int i))) : ∃ t, v = .int i t := by obtain ⟨_, as, r⟩ := x; cases r; exact ⟨_, rfl⟩
theorem vrd_str {i : Str} (x : VRd h v (.val (.str i))) : ∃ t, v = .str i t := by obtain ⟨_, as, r⟩ := x; cases r; exact ⟨_, rfl⟩
theorem vrd_bool {i : Bool} (x : VRd h v (.val (.bool i))) : v = .bool i := by obtain ⟨_, as, r⟩ := x; cases r; rfl
theorem vrd_none (x : VRd h v (.val .none)) : v = .none := by obtain ⟨_, as, r⟩ := x; cases r; rfl
theorem okd_list {xs : List PyData} (x : okd (.list xs)) : flats xs = true := by
  rcases x with x | ⟨ys, e, y⟩
  · simp [flat] at x
  · cases e; exact y
theorem okd_tuple {xs : List PyData} (x : okd (.tuple xs)) : flats xs = true := by
  rcases x with x | ⟨ys, e, y⟩
  · simpa [flat] using x
  · cases e
theorem okd_flat {d : PyData} (x : flat d = true) : okd d := .inl x
theorem reads_listAt {xs : List PyData} {as : List Addr} (r : Reads h v (.list xs) as) : ∃ a vs bs, v = .ref a ∧ h.IsList a vs.toArray ∧ ReadsAll h vs xs bs := by
  cases r with
  | list h1 h2 h3 h4 => exact ⟨_, _, _, rfl, ⟨_, h1, h2, _, h3⟩, h4⟩
theorem vrd_list {xs : List PyData} (x : VRd h v (.val (.list xs))) : flats xs = true ∧ ∃ a vs as, v = .ref a ∧ h.IsList a vs.toArray ∧ ReadsAll h vs xs as := by
  obtain ⟨k, as, r⟩ := x
  exact ⟨okd_list k, reads_listAt r⟩
theorem vrd_own {xs : List PyData} (x : VRd h v (.own xs)) : flats xs = true ∧ ∃ a vs as, v = .ref a ∧ h.IsList a vs.toArray ∧ ReadsAll h vs xs as := by
  obtain ⟨k, r⟩ := x
  obtain ⟨as, r⟩ := r.reads
  exact ⟨k, reads_listAt r⟩
theorem vrd_tuple {xs : List PyData} (x : VRd h v (.val (.tuple xs))) : flats xs = true ∧ ∃ a vs as, v = .ref a ∧ IsTup h a vs.toArray ∧ h.IsTuple a vs.toArray ∧ ReadsAll h vs xs as := by
  obtain ⟨k, as, r⟩ := x
  cases r with
  | tuple h1 h2 h3 h4 => exact ⟨okd_tuple k, _, _, _, rfl, ⟨_, h1, h2, _, h3⟩, ⟨_, h1, h2, _, h3⟩, h4⟩
theorem tr_int {CR : Addr} {hb : Heap} (i : Int) (t : Tok) : TR CR hb h (.int i t) (.val (.int i)) := ⟨.inl rfl, _, .int i t⟩
theorem tr_str {CR : Addr} {hb : Heap} (i : Str) (t : Tok) : TR CR hb h (.str i t) (.val (.str i)) := ⟨.inl rfl, _, .str i t⟩
theorem tr_bool {CR : Addr} {hb : Heap} (b : Bool) : TR CR hb h (.bool b) (.val (.bool b)) := ⟨.inl rfl, _, .bool b⟩
theorem tr_none {CR : Addr} {hb : Heap} : TR CR hb h .none (.val .none) := ⟨.inl rfl, _, .none⟩
end

theorem top_log {a : Int} (h : inTop a = true) : a.natAbs.log2 < 1900 := by
  have h' : a.natAbs < top := of_decide_eq_true h
  unfold top at h'
  by_cases h0 : a.natAbs = 0
  · rw [h0]; decide
  · exact (Nat.log2_lt h0).mpr h'
theorem top_bits {a : Int} (h : inTop a = true) : Builtin.Int.intBits a ≤ 1900 := by
  have := top_log h
  unfold Builtin.Int.intBits
  split <;> omega
theorem top_mul {a b : Int} (ha : inTop a = true) (hb : inTop b = true) : IntMulOk a b := by
  have h1 := top_bits ha
  have h2 := top_bits hb
  unfold IntMulOk Builtin.Int.intTooBig
  have e : decide ((Builtin.Int.intBits a : Int) + Builtin.Int.intBits b > bitsLine) = false := by
    apply decide_eq_false
    have : (bitsLine : Int) = 134217728 := by decide
    omega
  rw [e]
  simp

theorem is_none_value {v : Value} {h : Heap} {d : PyData} {as : List Addr} (r : Reads h v d as) : (v == .none) = isNone d := by
  cases r <;> rfl

section
variable {W : Wd} {A : Around} {s : Shared} {E : Value → Shared → Prop} {Q : Value → Shared → Prop} {n : Nat}

theorem intop_sound {op : Operator} {a b : Int} {tv : TV} {t u : Tok} (h : intop op a b = some tv) (hQ : OpK W s Q tv) : wpAny (model W.prog W.w) A (binaryOp op (.int a t) (.int b u)) Q E s := by
  cases op with
  | Add => cases h; exact wpAny_add_int (hQ _ s.heap _ (stays_refl _) (tr_int _ _))
  | Sub => cases h; exact PyProof.Rows.sub_int' (hQ _ s.heap _ (stays_refl _) (tr_int _ _))
  | Mult =>
    obtain ⟨hs, h⟩ := ite_inv h
    have hs' := Bool.and_eq_true_iff.mp hs
    cases h
    exact PyProof.Rows.mul_int (hQ _ s.heap _ (stays_refl _) (tr_int _ _)) (top_mul hs'.1 hs'.2)
  | FloorDiv =>
    obtain ⟨hs, h⟩ := ite_inv h
    cases h
    exact PyProof.Rows.floordiv_int hs.1 (hQ _ s.heap _ (stays_refl _) (tr_int _ _)) (.inl (PyProof.noPylong_of_log2 (by have := top_log hs.2; omega)))
  | Mod =>
    obtain ⟨hs, h⟩ := ite_inv h
    cases h
    exact PyProof.Rows.mod_int' hs (hQ _ s.heap _ (stays_refl _) (tr_int _ _))
  | Pow =>
    obtain ⟨hs, h⟩ := ite_inv h
    cases h
    have hb := top_bits hs.2.2
    refine PyProof.Rows.pow_int hs.1 ?_ (hQ _ s.heap _ (stays_refl _) (tr_int _ _))
    have h1 : (Builtin.Int.intBits a : Int) ≤ 1900 := by omega
    have h2 : (Builtin.Int.intBits a : Int) * b ≤ 1900 * 100 := Int.mul_le_mul h1 hs.2.1 hs.1 (by decide)
    omega
  | LShift =>
    obtain ⟨hs, h⟩ := ite_inv h
    cases h
    have hb := top_bits hs.2.2
    exact PyProof.Rows.lshift_int hs.1 (by omega) (hQ _ s.heap _ (stays_refl _) (tr_int _ _))
  | RShift =>
    obtain ⟨hs, h⟩ := ite_inv h
    cases h
    exact PyProof.Rows.rshift_int hs (hQ _ s.heap _ (stays_refl _) (tr_int _ _))
  | BitAnd => cases h; exact PyProof.Rows.and_int (hQ _ s.heap _ (stays_refl _) (tr_int _ _))
  | BitOr => cases h; exact PyProof.Rows.or_int (hQ _ s.heap _ (stays_refl _) (tr_int _ _))
  | BitXor => cases h; exact PyProof.Rows.xor_int (hQ _ s.heap _ (stays_refl _) (tr_int _ _))
  | MatMult => cases h
  | Div => cases h
theorem cat_sound {a b : List PyData} {tv : TV} (hx : flats a = true ∧ ∃ l vs as, v = .ref l ∧ s.heap.IsList l vs.toArray ∧ ReadsAll s.heap vs a as) (hy : VRd s.heap w (.own b)) (h : catop a b = some tv) (hQ : OpK W s Q tv) :
    wpAny (model W.prog W.w) A (binaryOp .Add v w) Q E s := by
  obtain ⟨hs, h⟩ := ite_inv h
  cases h
  obtain ⟨f1, l, vs, as, rfl, hl, ra⟩ := hx
  obtain ⟨f2, b, ws, bs, rfl, hb, rb⟩ := vrd_own hy
  obtain ⟨⟨cls, dd, data, sl⟩, ho, hc, n1, hd⟩ := id hl
  obtain ⟨⟨cls2, dd2, data2, sl2⟩, ho2, hc2, n2, hd2⟩ := id hb
  simp only at hc hd hc2 hd2
  subst hc hd hc2 hd2
  have e1 := readsAll_length ra
  have e2 := readsAll_length rb
  refine concat_meets ⟨_, ho, rfl⟩ ⟨_, ho2, rfl⟩ noFill_list_add seq_list_add PySem.F.slot_list_add PySem.F.entry_list_add (PySem.F.args_list_add_2 _ _) (list_addW l b vs.toArray ws.toArray n1 n2 dd dd2 sl sl2 (by simp only [List.size_toArray, sizeLine_eq]; omega)) ⟨ho, ho2, ?_⟩
  exact hQ _ _ _ (stays_push _ _) ⟨by rw [flats_append, f1, f2]; rfl, lst_new (readsAll_append ra rb) (by simp), _, rfl, Heap.get?_none_of_le (Nat.le_refl _)⟩
theorem binop_sound {op : Operator} {x y tv : TV} {v w : Value} (_R : Rm n A) (hx : VRd s.heap v x) (hy : VRd s.heap w y) (h : binop op x y = some tv) (hQ : OpK W s Q tv) :
    wpAny (model W.prog W.w) A (binaryOp op v w) Q E s := by
  rcases or_inv h with ⟨a, h1, h2⟩ | h1
  · obtain ⟨b, h3, h4⟩ := bind_inv h2
    obtain rfl := asInt_inv h1; obtain rfl := asInt_inv h3
    obtain ⟨t, rfl⟩ := vrd_int hx; obtain ⟨u, rfl⟩ := vrd_int hy
    exact intop_sound h4 hQ
  · obtain ⟨ha, h2⟩ := ite_inv h1
    obtain rfl := isAdd_inv ha
    rcases or_inv h2 with ⟨a, h3, h4⟩ | h3
    · obtain ⟨b, h5, h6⟩ := bind_inv h4
      obtain rfl := asStr_inv h3; obtain rfl := asStr_inv h5
      obtain ⟨hs, h7⟩ := ite_inv h6
      cases h7; obtain ⟨t, rfl⟩ := vrd_str hx; obtain ⟨u, rfl⟩ := vrd_str hy
      exact PyProof.Rows.add_str (fun t' tk => hQ _ s.heap tk (stays_refl _) (tr_str _ _)) (by rw [sizeLine_eq]; unfold strTop at hs; omega)
    · obtain ⟨b, h4, h5⟩ := bind_inv h3
      obtain rfl := asOwn_inv h4
      rcases or_inv h5 with ⟨a, h6, h7⟩ | h6
      · obtain rfl := asOwn_inv h6
        exact cat_sound (vrd_own hx) hy h7 hQ
      · obtain ⟨a, h7, h8⟩ := bind_inv h6
        obtain rfl := asList_inv h7
        exact cat_sound (vrd_list hx) hy h8 hQ

theorem inOk_of {d : PyData} {xs : List PyData} (h : inOk d xs = true) : PyData.canLayAll0 xs = true ∧ d.canLay0 = true ∧ d.depth ≤ 64 := by
  unfold inOk at h
  simp only [Bool.and_eq_true, decide_eq_true_eq] at h
  exact ⟨h.1.1, h.1.2, h.2⟩

theorem isNoneT_inv {y : TV} (h : isNoneT y = true) : y = .val .none := by
  unfold isNoneT at h
  cases y with
  | val d => cases d <;> first | rfl | cases h
  | _ => cases h
theorem eqop_sound {a b : PyData} {r : Bool} (R : Rm n A) (hx : VRd s.heap v (.val a)) (hy : VRd s.heap w (.val b)) (h : eqop a b = some r) (hQ : Q (.bool r) s) : wpAny (model W.prog W.w) A (compareOp .Eq v w) Q E s := by
  cases a with
  | int a =>
    obtain ⟨b, h1, rfl⟩ := map_inv h; obtain rfl := intD_inv h1
    obtain ⟨t, rfl⟩ := vrd_int hx; obtain ⟨u, rfl⟩ := vrd_int hy
    exact PyProof.Rows.eq_int hQ
  | str a =>
    obtain ⟨b, h1, rfl⟩ := map_inv h; obtain rfl := strD_inv h1
    obtain ⟨t, rfl⟩ := vrd_str hx; obtain ⟨u, rfl⟩ := vrd_str hy
    exact PyProof.Rows.eq_str hQ
  | bool a =>
    obtain ⟨b, h1, rfl⟩ := map_inv h; obtain rfl := boolD_inv h1
    obtain rfl := vrd_bool hx; obtain rfl := vrd_bool hy
    exact PyProof.Rows.eq_bool hQ
  | tuple xs =>
    obtain ⟨hs, h1⟩ := ite_inv h
    have hs' := Bool.and_eq_true_iff.mp hs
    cases h1
    obtain ⟨_, as, r1⟩ := hx
    obtain ⟨_, bs, r2⟩ := hy
    exact eq_dataH r1 r2 hs'.1 hs'.2 (by have := R.units; rw [cLine_is]; omega) hQ
  | none => cases h
  | list _ => cases h
  | dict _ => cases h
theorem neop_sound {a b : PyData} {r : Bool} (R : Rm n A) (hx : VRd s.heap v (.val a)) (hy : VRd s.heap w (.val b)) (h : neop a b = some r) (hQ : Q (.bool r) s) : wpAny (model W.prog W.w) A (compareOp .NotEq v w) Q E s := by
  cases a with
  | int a =>
    obtain ⟨b, h1, rfl⟩ := map_inv h; obtain rfl := intD_inv h1
    obtain ⟨t, rfl⟩ := vrd_int hx; obtain ⟨u, rfl⟩ := vrd_int hy
    exact PyProof.Rows.ne_int hQ
  | str a =>
    obtain ⟨b, h1, rfl⟩ := map_inv h; obtain rfl := strD_inv h1
    obtain ⟨t, rfl⟩ := vrd_str hx; obtain ⟨u, rfl⟩ := vrd_str hy
    exact PyProof.Rows.ne_str hQ
  | tuple xs =>
    obtain ⟨z, h0, rfl⟩ := map_inv h
    obtain ⟨hs, h1⟩ := ite_inv h0
    have hs' := Bool.and_eq_true_iff.mp hs
    cases h1
    obtain ⟨_, as, r1⟩ := hx
    obtain ⟨_, bs, r2⟩ := hy
    exact ne_dataH r1 r2 hs'.1 hs'.2 (by have := R.units; rw [cLine_is]; omega) hQ
  | bool _ => cases h
  | none => cases h
  | list _ => cases h
  | dict _ => cases h
theorem cmpop_sound {op : CmpOp} {x y : TV} {b : Bool} {v w : Value} (R : Rm n A) (hx : VRd s.heap v x) (hy : VRd s.heap w y) (h : cmpop op x y = some b) (hQ : Q (.bool b) s) :
    wpAny (model W.prog W.w) A (compareOp op v w) Q E s := by
  have hints : ∀ {f : Int → Int → Bool}, intcmp f x y = some b → ∃ a t c u, v = .int a t ∧ w = .int c u ∧ f a c = b := fun {f} h => by
    obtain ⟨a, h1, h2⟩ := bind_inv h
    obtain ⟨c, h3, rfl⟩ := map_inv h2
    obtain rfl := asInt_inv h1; obtain rfl := asInt_inv h3
    obtain ⟨t, rfl⟩ := vrd_int hx; obtain ⟨u, rfl⟩ := vrd_int hy
    exact ⟨_, _, _, _, rfl, rfl, rfl⟩
  cases op with
  | Eq =>
    obtain ⟨a, h1, h2⟩ := bind_inv h
    obtain ⟨c, h3, h4⟩ := bind_inv h2
    obtain rfl := asVal_inv h1; obtain rfl := asVal_inv h3
    exact eqop_sound R hx hy h4 hQ
  | NotEq =>
    obtain ⟨a, h1, h2⟩ := bind_inv h
    obtain ⟨c, h3, h4⟩ := bind_inv h2
    obtain rfl := asVal_inv h1; obtain rfl := asVal_inv h3
    exact neop_sound R hx hy h4 hQ
  | Lt =>
    rcases or_inv h with ⟨a, h1, h2⟩ | h1
    · obtain ⟨c, h3, rfl⟩ := map_inv h2
      obtain rfl := asInt_inv h1; obtain rfl := asInt_inv h3
      obtain ⟨t, rfl⟩ := vrd_int hx; obtain ⟨u, rfl⟩ := vrd_int hy
      exact PyProof.Rows.lt_int hQ
    · obtain ⟨a, h2, h3⟩ := bind_inv h1
      obtain ⟨c, h4, rfl⟩ := map_inv h3
      obtain rfl := asStr_inv h2; obtain rfl := asStr_inv h4
      obtain ⟨t, rfl⟩ := vrd_str hx; obtain ⟨u, rfl⟩ := vrd_str hy
      exact PyProof.Rows.lt_str hQ
  | LtE => obtain ⟨a, t, c, u, rfl, rfl, rfl⟩ := hints h; exact PyProof.Rows.le_int hQ
  | Gt => obtain ⟨a, t, c, u, rfl, rfl, rfl⟩ := hints h; exact PyProof.Rows.gt_int hQ
  | GtE => obtain ⟨a, t, c, u, rfl, rfl, rfl⟩ := hints h; exact PyProof.Rows.ge_int hQ
  | Is =>
    obtain ⟨a, h1, h2⟩ := bind_inv h
    obtain ⟨h3, h4⟩ := ite_inv h2
    obtain rfl := asVal_inv h1; obtain rfl := isNoneT_inv h3
    cases h4; obtain ⟨_, as, r1⟩ := hx; obtain rfl := vrd_none hy
    exact PySem.is_none (by rw [is_none_value r1]; exact hQ)
  | IsNot =>
    obtain ⟨a, h1, h2⟩ := bind_inv h
    obtain ⟨h3, h4⟩ := ite_inv h2
    obtain rfl := asVal_inv h1; obtain rfl := isNoneT_inv h3
    cases h4; obtain ⟨_, as, r1⟩ := hx; obtain rfl := vrd_none hy
    exact PySem.isNot_none (by rw [is_none_value r1]; exact hQ)
  | In =>
    have hu : A.units + 70 < cLine := by have := R.units; rw [cLine_is]; omega
    obtain ⟨d, h1, h2⟩ := bind_inv h
    obtain rfl := asVal_inv h1
    rcases or_inv h2 with ⟨xs, h3, h4⟩ | h3
    · obtain rfl := asTup_inv h3
      obtain ⟨hs, h5⟩ := ite_inv h4
      obtain ⟨a1, a2, a3⟩ := inOk_of hs
      cases h5; obtain ⟨_, as, r1⟩ := hx; obtain ⟨_, bs, r2⟩ := hy
      exact SeqAt.in_tuple_reads r2 r1 a1 a2 (by rw [Nat.min_def]; split <;> omega) hQ
    · obtain ⟨xs, h4, h5⟩ := bind_inv h3
      obtain rfl := asList_inv h4
      obtain ⟨hs, h6⟩ := ite_inv h5
      obtain ⟨a1, a2, a3⟩ := inOk_of hs
      cases h6; obtain ⟨_, as, r1⟩ := hx; obtain ⟨_, bs, r2⟩ := hy
      exact SeqAt.in_list_reads r2 r1 a1 a2 (by rw [Nat.min_def]; split <;> omega) hQ
  | NotIn =>
    have hu : A.units + 70 < cLine := by have := R.units; rw [cLine_is]; omega
    obtain ⟨d, h1, h2⟩ := bind_inv h
    obtain ⟨xs, h3, h4⟩ := bind_inv h2
    obtain rfl := asVal_inv h1; obtain rfl := asTup_inv h3
    obtain ⟨hs, h5⟩ := ite_inv h4
    obtain ⟨a1, a2, a3⟩ := inOk_of hs
    cases h5; obtain ⟨_, as, r1⟩ := hx; obtain ⟨_, bs, r2⟩ := hy
    exact SeqAt.notIn_tuple_reads r2 r1 a1 a2 (by rw [Nat.min_def]; split <;> omega) hQ

theorem truth_sound {x : TV} {b : Bool} {v : Value} {Q : Bool → Shared → Prop} (hx : VRd s.heap v x) (h : truth x = some b) (hQ : Q b s) : wpAny (model W.prog W.w) A (truthy v) Q E s := by
  unfold truth at h
  split at h
  · cases h; obtain rfl := vrd_none hx; exact fun _ _ _ => hQ
  · cases h; obtain rfl := vrd_bool hx; exact wpAny_truthy_bool hQ
  · cases h; obtain ⟨t, rfl⟩ := vrd_int hx; exact PyProof.Rows.truthy_int hQ
  · cases h

end
end NP
end
section
open PySem PySem.Calls PyProof.Rows PySem.W PySem.Spec
set_option maxRecDepth 100000
namespace NP

structure WOK (W : Wd) : Prop where
  g : W.B0.Ns mainGlobals W.mg
  b : W.B0.Ns builtinsNs W.mb
  nolimit : W.B0.NoLimit
  blt : ∀ x : Str, x ≠ Str.ofString "__name__" → W.mb x = bootBuiltins x
  bare : ∀ x ∈ (["len", "ord", "abs", "str", "min", "max", "range"] : List String), W.mg (Str.ofString x) = none


section
variable (W : Wd) (C : Fm) (n : Nat) (Φ : Nat → List TV → Option (Out TV))

noncomputable def SndE (e : Expr) (c : CE) : Prop :=
  ∀ A s σ Q E, A.frames = some (C.env :: C.envs) → Rm n A → FI C s.heap σ → PE W C s (KE W C s Q) E (evE Φ c σ) → wpAny (model W.prog W.w) A (eval e C.env) Q E s
noncomputable def KT (s : Shared) (Q : Bool → Shared → Prop) (b : Bool) : Prop := ∀ h' tk, Grow C.fr s.heap h' → Q b { s with heap := h', toks := tk }
noncomputable def SndT (e : Expr) (c : CE) : Prop :=
  ∀ A s σ Q E, A.frames = some (C.env :: C.envs) → Rm n A → FI C s.heap σ → PE W C s (KT C s Q) E (evT Φ c σ) → wpAny (model W.prog W.w) A (isTrue e C.env (eval e C.env)) Q E s
noncomputable def KL (s : Shared) (Q : List Value → Shared → Prop) (tvs : List TV) : Prop := ∀ vs h' tk, Grow C.fr s.heap h' → VRds h' vs tvs → Q vs { s with heap := h', toks := tk }
end

section
variable {W : Wd} {C : Fm} {n : Nat} {Φ : Nat → List TV → Option (Out TV)} {fn : Str → Option Nat} {A : Around} {s : Shared} {σ : Store} {E : Value → Shared → Prop}

theorem KE.op {Q : Value → Shared → Prop} {tv : TV} {h₂ : Heap} {t₂ : Nat} (K : KE W C s Q tv) (g : Grow C.fr s.heap h₂) : OpK W { s with heap := h₂, toks := t₂ } Q tv :=
  fun v h' tk st y => K v h' tk (g.trans (.of_stays st)) (y.birth fun _ q => g.none q)

theorem SndE.then {e : Expr} {c : CE} (ih : SndE W C n Φ e c) (S : FS W C) (hA : A.frames = some (C.env :: C.envs)) (R : Rm n A) (I : FI C s.heap σ) {K' : TV → Prop} {Q : Value → Shared → Prop} (p : PE W C s K' E (evE Φ c σ))
    (k : ∀ tv v h' tk, K' tv → Grow C.fr s.heap h' → TR W.CR s.heap h' v tv → FI C h' σ → Q v { s with heap := h', toks := tk }) : wpAny (model W.prog W.w) A (eval e C.env) Q E s :=
  ih A s σ Q E hA R I (p.mono fun tv q v h' tk g y => k tv v h' tk q g y (I.step S g))
theorem SndT.then {e : Expr} {c : CE} (ih : SndT W C n Φ e c) (S : FS W C) (hA : A.frames = some (C.env :: C.envs)) (R : Rm n A) (I : FI C s.heap σ) {K' : Bool → Prop} {Q : Bool → Shared → Prop} (p : PE W C s K' E (evT Φ c σ))
    (k : ∀ b h' tk, K' b → Grow C.fr s.heap h' → FI C h' σ → Q b { s with heap := h', toks := tk }) : wpAny (model W.prog W.w) A (isTrue e C.env (eval e C.env)) Q E s :=
  ih A s σ Q E hA R I (p.mono fun b q h' tk g => k b h' tk q g (I.step S g))

theorem two {e₁ e₂ : Expr} {c₁ c₂ : CE} (i1 : SndE W C n Φ e₁ c₁) (i2 : SndE W C n Φ e₂ c₂) (S : FS W C) (hA : A.frames = some (C.env :: C.envs)) (R : Rm n A) (I : FI C s.heap σ) {α : Type} {f : TV → TV → Option (Out α)} {K : α → Prop}
    {Q : Value → Value → Shared → Prop} (p : PE W C s K E (ebind (evE Φ c₁ σ) fun x => ebind (evE Φ c₂ σ) fun y => f x y))
    (k : ∀ x y v w h₂ t₂, PE W C { s with heap := h₂, toks := t₂ } K E (f x y) → Grow C.fr s.heap h₂ → VRd h₂ v x → VRd h₂ w y → FI C h₂ σ → Q v w { s with heap := h₂, toks := t₂ }) :
    wpAny (model W.prog W.w) A (eval e₁ C.env) (fun a s₁ => wpAny (model W.prog W.w) A (eval e₂ C.env) (fun b s₂ => Q a b s₂) E s₁) E s :=
  i1.then S hA R I p.bind fun x v h1 t1 q1 g1 y1 I1 =>
    i2.then (s := { s with heap := h1, toks := t1 }) S hA R I1 (PE.move g1 q1).bind fun y w h2 t2 q2 g2 y2 I2 =>
      k x y v w h2 t2 (PE.move (s := { s with heap := h1, toks := t1 }) g2 q2) (g1.trans g2) (y1.vrd.up g2.up) y2.vrd I2

theorem starEach_plain {env : Env} {pos : Pos} : ∀ {es : List Expr}, (∀ e ∈ es, isStarred e = false) → backTo pos (starEach es env) = es.map fun e => (false, eval e env)
  | [], _ => rfl
  | e :: r, h => by
    have ih := starEach_plain (env := env) (pos := pos) (es := r) fun x hx => h x (.tail _ hx)
    have he := h e (.head _)
    cases e <;> first | (simp [isStarred] at he; done) | (exact congrArg (_ :: ·) ih)
theorem cEs_cons' {f : Expr → Option CE} {e : Expr} {r : List Expr} {cs : List CE} (h : cEs f (e :: r) = some cs) : isStarred e = false ∧ ∃ c cs', f e = some c ∧ cEs f r = some cs' ∧ cs = c :: cs' := by
  obtain ⟨h1, h2⟩ := eti_inv (x := (f e).bind fun a => (cEs f r).map (a :: ·)) h
  obtain ⟨c, h3, h4⟩ := bind_inv h2
  obtain ⟨cs', h5, rfl⟩ := map_inv h4
  exact ⟨Bool.eq_false_iff.mpr h1, c, cs', h3, h5, rfl⟩
theorem cEs_plain {f : Expr → Option CE} : ∀ {es : List Expr} {cs : List CE}, cEs f es = some cs → ∀ e ∈ es, isStarred e = false
  | [], _, _ => fun _ h => nomatch h
  | e :: r, cs, h => by
    obtain ⟨a, c, cs', _, b, _⟩ := cEs_cons' h
    intro x hx
    rcases List.mem_cons.mp hx with rfl | hx
    · exact a
    · exact cEs_plain b x hx
theorem cEs_cons {f : Expr → Option CE} {e : Expr} {r : List Expr} {cs : List CE} (h : cEs f (e :: r) = some cs) : ∃ c cs', f e = some c ∧ cEs f r = some cs' ∧ cs = c :: cs' := (cEs_cons' h).2

theorem many {f : Expr → Option CE} (S : FS W C) (ih : ∀ e c, f e = some c → SndE W C n Φ e c) (hA : A.frames = some (C.env :: C.envs)) (R : Rm n A) :
    ∀ {es : List Expr} {cs : List CE} (s : Shared) (K : List TV → Prop) (Q : List Value → Shared → Prop), cEs f es = some cs → FI C s.heap σ → PE W C s K E (evEs Φ cs σ) →
      (∀ tvs vs h' tk, K tvs → Grow C.fr s.heap h' → VRds h' vs tvs → FI C h' σ → Q vs { s with heap := h', toks := tk }) →
      wpAny (model W.prog W.w) A (spliced (es.map fun e => (false, eval e C.env))) Q E s
  | [], cs, s, K, Q, h, I, p, k => by
    cases h
    exact Calls.spliced_nil (k [] [] s.heap s.toks p (Grow.refl _ _) trivial I)
  | e :: r, cs, s, K, Q, h, I, p, k => by
    obtain ⟨c, cs', h1, h2, rfl⟩ := cEs_cons h
    have p : PE W C s K E (ebind (evE Φ c σ) fun v => ebind (evEs Φ cs' σ) fun vs => some (.ok (v :: vs))) := p
    refine Calls.spliced_cons ((ih e c h1).then S hA R I p.bind fun tv v h' tk q g y I1 => ?_)
    refine many S ih hA R { s with heap := h', toks := tk } _ _ h2 I1 (PE.move g q).bind fun tvs vs h'' tk' q' g' y' I2 => ?_
    exact k (tv :: tvs) (v :: vs) h'' tk' q' (g.trans g') ⟨y.vrd.up g'.up, y'⟩ I2

theorem datas_reads {h : Heap} : ∀ {vs : List Value} {tvs : List TV} {ds : List PyData}, VRds h vs tvs → datas tvs = some ds → flats ds = true ∧ ∃ as, ReadsAll h vs ds as
  | [], [], ds, _, e => by cases e; exact ⟨rfl, _, .nil⟩
  | v :: vs, t :: ts, ds, ⟨a, b⟩, e => by
    cases t with
    | val d =>
      simp only [datas] at e
      split at e
      · rename_i hf
        obtain ⟨ds', e', rfl⟩ := Option.map_eq_some_iff.mp e
        obtain ⟨f, as, r⟩ := datas_reads b e'
        obtain ⟨_, bs, r'⟩ := a
        exact ⟨by show (flat d && flats ds') = true; rw [hf, f]; rfl, _, .cons r' r⟩
      · cases e
    | own xs => cases e
    | exc t ec => cases e

theorem evalArgs_map {f : Value} {es : List Expr} {env : Env} {Q : Args → Shared → Prop} {M : Model} (h : wpAny M A (spliced (es.map fun e => (false, eval e env))) (fun vs s' => Q ⟨vs, []⟩ s') E s) :
    wpAny M A (evalArgs f true (es.map fun e => (false, eval e env)) []) Q E s := by
  cases es with
  | nil =>
    unfold evalArgs
    show wpAny M A (spliced [] >>= _) Q E s
    refine wpAny_bind (wpAny_mono h (fun vs s' h' => ?_) fun _ _ x => x)
    refine wpAny_holding ?_
    exact wpAny_bind (wpAny_pure (wpAny_bind (wpAny_pure (wpAny_pure h'))))
  | cons e r => exact Calls.evalArgs_plain h
theorem map_noStar {es : List Expr} {env : Env} : (es.map fun e => ((false, eval e env) : Bool × Sem Value)).any (·.1) = false := by
  rw [List.any_map]
  exact List.any_eq_false.mpr fun _ _ => Bool.false_ne_true


theorem name_local (S : FS W C) (I : FI C s.heap σ) {x : Str} {i : Nat} {p : Pos} {Q : Value → Shared → Prop} (hi : C.nm[i]? = some x) (hd : (x == Str.ofString "__debug__") = false) {tv : TV} (ht : sget σ i = some tv)
    (h : ∀ v, SR C.h₀ s.heap v tv → Q v s) : wpAny (model W.prog W.w) A (eval (.Name x p) C.env) Q E s := by
  obtain ⟨m, hn, l⟩ := I.ns
  obtain ⟨y, v, e1, e2, r⟩ := l.has i tv ht
  rw [hi] at e1
  cases e1
  exact wpAny_Name (wpAny_loadName_local S.kind (S.loc x (List.mem_of_getElem? hi)) hn e2 (h v r)) hd
theorem name_global (S : FS W C) (O : WOK W) (I : FI C s.heap σ) {x : Str} {p : Pos} {v : Value} {Q : Value → Shared → Prop} (hx : C.sc.names.lookup x = some .globalImplicit) (hd : (x == Str.ofString "__debug__") = false) (hv : W.mg x = some v) (h : Q v s) :
    wpAny (model W.prog W.w) A (eval (.Name x p) C.env) Q E s :=
  Calls.Name_function_global S.kind hx (Calls.loadGlobal_global (env := C.env) (O.g.keeps (I.stays S)) hv h) hd
theorem name_builtin (S : FS W C) (O : WOK W) (I : FI C s.heap σ) {x : String} {p : Pos} {v : Value} {Q : Value → Shared → Prop} (hx : C.sc.names.lookup (Str.ofString x) = some .globalImplicit) (hm : x ∈ ["len", "ord", "abs", "str", "min", "max", "range"])
    (hv : bootBuiltins (Str.ofString x) = some v) (hn : Str.ofString x ≠ Str.ofString "__name__") (hd : (Str.ofString x == Str.ofString "__debug__") = false) (h : Q v s) :
    wpAny (model W.prog W.w) A (eval (.Name (Str.ofString x) p) C.env) Q E s :=
  Calls.Name_function_global S.kind hx (Calls.loadGlobal_builtin (env := C.env) (O.g.keeps (I.stays S)) (O.bare x hm) (O.b.keeps (I.stays S)) ((O.blt _ hn).trans hv) h) hd

theorem call_named {v : Value} {q : Expr} {es : List Expr} {pos : Pos} {Q : Value → Shared → Prop} {x : Str} {p : Pos} (_hq : q = .Name x p) (hv : (∃ i, v = .builtin i) ∨ ∃ T, v = .type T) (hs : ∀ e ∈ es, isStarred e = false)
    (h : ∀ Q' : Value → Shared → Prop, Q' v s → wpAny (model W.prog W.w) A (eval q C.env) Q' E s)
    (k : wpAny (model W.prog W.w) A (spliced (es.map fun e => (false, eval e C.env))) (fun vs s₁ => wpAny (model W.prog W.w) A (call v vs) Q E s₁) E s) :
    wpAny (model W.prog W.w) A (eval (.Call q es [] pos) C.env) Q E s := by
  subst _hq
  refine wpAny_Call_NameR (h _ ?_)
  rw [starEach_plain hs]
  rcases hv with ⟨i, rfl⟩ | ⟨T, rfl⟩
  · exact Calls.callWith_builtin map_noStar (evalArgs_map k)
  · exact PySem.callWith_type map_noStar (evalArgs_map k)
end
end NP
end
section
open PySem PySem.Calls PyProof.Rows PySem.W PySem.Spec
set_option maxRecDepth 100000
namespace NP

section
variable {W : Wd} {C : Fm} {n : Nat} {Φ : Nat → List TV → Option (Out TV)} {fn : Str → Option Nat}

theorem sndT_none {e : Expr} {c : CE} (h : ∀ σ, evT Φ c σ = none) : SndT W C n Φ e c := fun A s σ Q E _ _ _ p => by
  rw [h] at p
  exact p.elim
theorem sndT_value (S : FS W C) {e : Expr} {c : CE} (ih : SndE W C n Φ e c) (he : isTrue e C.env (eval e C.env) = (do let v ← eval e C.env; standAt e.pos; holding [v] (truthy v)))
    (hT : ∀ σ, evT Φ c σ = ebind (evE Φ c σ) fun x => lift (truth x)) : SndT W C n Φ e c := fun A s σ Q E hA R I p => by
  rw [hT] at p
  refine wpAny_isTrue_value (ih.then S hA R I p.bind fun tv v h' tk q g y I1 => ?_) he
  obtain ⟨b, e1, K⟩ := q.lift
  exact truth_sound y.vrd e1 (K h' tk g)

theorem KE.here {s : Shared} {Q : Value → Shared → Prop} {tv : TV} (K : KE W C s Q tv) {v : Value} (h : TR W.CR s.heap s.heap v tv) : Q v s := K v s.heap s.toks (Grow.refl _ _) h
theorem KE.tick {s : Shared} {Q : Value → Shared → Prop} {tv : TV} (K : KE W C s Q tv) {v : Value} {k : Nat} (h : TR W.CR s.heap s.heap v tv) : Q v { s with toks := k } := K v s.heap k (Grow.refl _ _) h


theorem snd_lit (S : FS W C) {e : Expr} {d : PyData} (h : ∀ A s Q E, KE W C s Q (.val d) → wpAny (model W.prog W.w) A (eval e C.env) Q E s)
    (he : isTrue e C.env (eval e C.env) = (do let v ← eval e C.env; standAt e.pos; holding [v] (truthy v))) : SndE W C n Φ e (.lit d) ∧ SndT W C n Φ e (.lit d) := by
  have k : SndE W C n Φ e (.lit d) := fun A s σ Q E _ _ _ p => h A s Q E p
  exact ⟨k, sndT_value S k he fun _ => rfl⟩

theorem snd_var (S : FS W C) {x : Str} {p : Pos} {i : Nat} (hi : C.nm[i]? = some x) (hd : (x == Str.ofString "__debug__") = false) : SndE W C n Φ (.Name x p) (.var i) ∧ SndT W C n Φ (.Name x p) (.var i) := by
  have k : SndE W C n Φ (.Name x p) (.var i) := fun A s σ Q E hA R I p => by
    obtain ⟨tv, e, K⟩ := PE.lift (show PE W C s (KE W C s Q) E (lift ((sget σ i).map view)) from p)
    obtain ⟨tv', e', rfl⟩ := Option.map_eq_some_iff.mp e
    refine name_local S I hi hd e' fun v r => K.here ?_
    cases tv' with
    | val d => exact r
    | own xs => exact ⟨.inr ⟨xs, rfl, r.1⟩, r.2.1.reads⟩
    | exc t ec => exact r.elim
  refine ⟨k, sndT_value S k rfl fun σ => ?_⟩
  show lift _ = ebind (lift _) _
  cases h : sget σ i <;> rfl

theorem snd_bin (S : FS W C) {l r : Expr} {op : Operator} {p : Pos} {a b : CE} (i1 : SndE W C n Φ l a) (i2 : SndE W C n Φ r b) : SndE W C n Φ (.BinOp l op r p) (.bin op a b) :=
  fun A s σ Q E hA R I p => wpAny_BinOp (two i1 i2 S hA R I p fun x y v w h₂ t₂ q g y1 y2 _ => by
    obtain ⟨tv, e, K⟩ := q.lift
    exact binop_sound (W := W) R y1 y2 e (K.op g))

theorem snd_neg (S : FS W C) {x : Expr} {p : Pos} {a : CE} (i1 : SndE W C n Φ x a) : SndE W C n Φ (.UnaryOp .USub x p) (.neg a) :=
  fun A s σ Q E hA R I p => wpAny_UnaryOp (i1.then S hA R I (PE.bind p) fun tv v h' tk q g y _ => by
    try dsimp only at q
    split at q
    · obtain ⟨t, rfl⟩ := vrd_int y.vrd
      exact PyProof.Rows.neg_int (q _ h' _ g (tr_int _ _))
    · exact q.elim)
theorem snd_inv (S : FS W C) {x : Expr} {p : Pos} {a : CE} (i1 : SndE W C n Φ x a) : SndE W C n Φ (.UnaryOp .Invert x p) (.inv a) :=
  fun A s σ Q E hA R I p => wpAny_UnaryOp (i1.then S hA R I (PE.bind p) fun tv v h' tk q g y _ => by
    try dsimp only at q
    split at q
    · obtain ⟨t, rfl⟩ := vrd_int y.vrd
      exact PyProof.Rows.invert_int (q _ h' _ g (tr_int _ _))
    · exact q.elim)
theorem snd_not (S : FS W C) {x : Expr} {p : Pos} {a : CE} (i1 : SndE W C n Φ x a) (t1 : SndT W C n Φ x a) : SndE W C n Φ (.UnaryOp .Not x p) (.not a) ∧ SndT W C n Φ (.UnaryOp .Not x p) (.not a) := by
  refine ⟨fun A s σ Q E hA R I p => wpAny_UnaryOp (i1.then S hA R I (PE.bind p) fun tv v h' tk q g y _ => ?_), fun A s σ Q E hA R I p => wpAny_isTrue_Not (t1.then S hA R I (PE.bind p) fun b h' tk q g _ => q h' tk g)⟩
  obtain ⟨tv', e, K⟩ := q.lift
  obtain ⟨b, e', rfl⟩ := Option.map_eq_some_iff.mp e
  exact not_value (truth_sound y.vrd e' (K _ h' _ g (tr_bool _)))

theorem snd_cmp (S : FS W C) {l r : Expr} {op : CmpOp} {p : Pos} {a b : CE} (hm : behindInMarks op r = false) (i1 : SndE W C n Φ l a) (i2 : SndE W C n Φ r b) : SndE W C n Φ (.Compare l [op] [r] p) (.cmp op a b) ∧ SndT W C n Φ (.Compare l [op] [r] p) (.cmp op a b) := by
  refine ⟨fun A s σ Q E hA R I p => wpAny_Compare1 (two i1 i2 S hA R I p fun x y v w h₂ t₂ q g y1 y2 _ => ?_) hm, fun A s σ Q E hA R I p => wpAny_isTrue_Compare1 (two i1 i2 S hA R I p fun x y v w h₂ t₂ q g y1 y2 _ => ?_) hm⟩
  · obtain ⟨tv', e, K⟩ := q.lift
    obtain ⟨b, e', rfl⟩ := Option.map_eq_some_iff.mp e
    exact cmpop_sound R y1 y2 e' (K _ h₂ _ g (tr_bool _))
  · obtain ⟨b, e, K⟩ := q.lift
    exact cmpop_sound R y1 y2 e (wpAny_truthy_bool (K h₂ _ g))

theorem snd_cmp2 (S : FS W C) {l r q : Expr} {o1 o2 : CmpOp} {p : Pos} {a b c : CE} (hm : lastMarks [o1, o2] [r, q] = false) (i1 : SndE W C n Φ l a) (i2 : SndE W C n Φ r b) (i3 : SndE W C n Φ q c) :
    SndE W C n Φ (.Compare l [o1, o2] [r, q] p) (.cmp2 o1 o2 a b c) ∧ SndT W C n Φ (.Compare l [o1, o2] [r, q] p) (.cmp2 o1 o2 a b c) := by
  constructor
  · intro A s σ Q E hA R I p
    refine Compare_chain (wpAny_mono (two (Q := fun v w s₂ => wpAny (model W.prog W.w) A (compareOp o1 v w) (fun c s₃ => wpAny (model W.prog W.w) A (truthy c) (fun t s₄ => if t then wpAny (model W.prog W.w) A (compareChain _ w [o2] [eval q C.env]) Q E s₄ else Q c s₄) E s₃) E s₂)
      i1 i2 S hA R I p fun x y v w h₂ t₂ z g y1 y2 I2 => ?_) (fun v s₁ h₁ => chain_link h₁) fun _ _ x => x) hm
    try dsimp only at z
    split at z
    · rename_i e1
      refine cmpop_sound R y1 y2 e1 (wpAny_truthy_bool ?_)
      rw [if_pos rfl]
      refine chain_last (i3.then S hA R I2 (PE.bind z) fun tv u h3 t3 q3 g3 y3 _ => ?_)
      obtain ⟨tv', e, K⟩ := q3.lift
      obtain ⟨b, e', rfl⟩ := Option.map_eq_some_iff.mp e
      exact cmpop_sound R (y2.up g3.up) y3.vrd e' (K _ h3 _ (g.trans g3) (tr_bool _))
    · rename_i e1
      refine cmpop_sound R y1 y2 e1 (wpAny_truthy_bool ?_)
      rw [if_neg Bool.false_ne_true]
      exact z _ h₂ _ g (tr_bool _)
    · exact z.elim
  · intro A s σ Q E hA R I p
    refine isTrue_chain (wpAny_mono (two (Q := fun v w s₂ => wpAny (model W.prog W.w) A (compareOp o1 v w) (fun c s₃ => wpAny (model W.prog W.w) A (truthy c) (fun t s₄ => if t then wpAny (model W.prog W.w) A (testChain _ w [o2] [eval q C.env]) Q E s₄ else Q false s₄) E s₃) E s₂)
      i1 i2 S hA R I p fun x y v w h₂ t₂ z g y1 y2 I2 => ?_) (fun v s₁ h₁ => test_link h₁) fun _ _ x => x) hm
    try dsimp only at z
    split at z
    · rename_i e1
      refine cmpop_sound R y1 y2 e1 (wpAny_truthy_bool ?_)
      rw [if_pos rfl]
      refine test_last (i3.then S hA R I2 (PE.bind z) fun tv u h3 t3 q3 g3 y3 _ => ?_)
      obtain ⟨b, e, K⟩ := q3.lift
      exact cmpop_sound R (y2.up g3.up) y3.vrd e (wpAny_truthy_bool (K h3 _ (g.trans g3)))
    · rename_i e1
      refine cmpop_sound R y1 y2 e1 (wpAny_truthy_bool ?_)
      rw [if_neg Bool.false_ne_true]
      exact z h₂ _ g
    · exact z.elim

theorem snd_ife (S : FS W C) {t a b : Expr} {p : Pos} {ct ca cb : CE} (h1 : SndT W C n Φ t ct) (i2 : SndE W C n Φ a ca ∧ SndT W C n Φ a ca) (i3 : SndE W C n Φ b cb ∧ SndT W C n Φ b cb) :
    SndE W C n Φ (.IfExp t a b p) (.ife ct ca cb) ∧ SndT W C n Φ (.IfExp t a b p) (.ife ct ca cb) := by
  constructor
  · intro A s σ Q E hA R I p
    refine wpAny_IfExp (h1.then S hA R I (PE.bind p) fun c h' tk q g I1 => ?_)
    cases c with
    | true => exact i2.1 A _ σ Q E hA R I1 ((PE.move g q).mono fun _ K => KE.move g K)
    | false => exact i3.1 A _ σ Q E hA R I1 ((PE.move g q).mono fun _ K => KE.move g K)
  · intro A s σ Q E hA R I p
    show wpAny _ _ (do if ← isTrue t C.env (eval t C.env) then isTrue a C.env (eval a C.env) else isTrue b C.env (eval b C.env)) _ _ _
    refine wpAny_bind (h1.then S hA R I (PE.bind p) fun c h' tk q g I1 => ?_)
    cases c with
    | true => exact i2.2 A _ σ Q E hA R I1 ((PE.move g q).mono fun _ K h'' tk' g' => K h'' tk' (g.trans g'))
    | false => exact i3.2 A _ σ Q E hA R I1 ((PE.move g q).mono fun _ K h'' tk' g' => K h'' tk' (g.trans g'))

theorem okSize_le {k : Nat} (h : okSize k = true) : k ≤ 1000 := of_decide_eq_true h

theorem snd_tup (S : FS W C) {f : Expr → Option CE} (ih : ∀ e c, f e = some c → SndE W C n Φ e c) {es : List Expr} {k : Nat} {p : Pos} {cs : List CE} (h : cEs f es = some cs) : SndE W C n Φ (.Tuple es k p) (.tup cs) := fun A s σ Q E hA R I p => by
  refine wpAny_Tuple ?_
  rw [starEach_plain (cEs_plain h)]
  refine many S ih hA R s _ _ h I (PE.bind p) fun tvs vs h' tk q g y _ => ?_
  obtain ⟨tv, e, K⟩ := q.lift
  obtain ⟨ds, e1, e2⟩ := Option.bind_eq_some_iff.mp e
  split at e2
  · rename_i hz
    cases e2
    obtain ⟨f1, as, r⟩ := datas_reads y e1
    have hl := readsAll_length r
    have hz' := okSize_le hz
    exact ⟨by rw [sizeLine_eq]; omega, K _ _ _ (g.trans (.of_stays (stays_push _ _))) ⟨.inl (by simpa [flat] using f1), _, reads_newTuple r rfl⟩⟩
  · cases e2
theorem snd_lst (S : FS W C) {f : Expr → Option CE} (ih : ∀ e c, f e = some c → SndE W C n Φ e c) {es : List Expr} {p : Pos} {cs : List CE} (h : cEs f es = some cs) : SndE W C n Φ (.List es p) (.lst cs) := fun A s σ Q E hA R I p => by
  refine wpAny_List ?_
  rw [starEach_plain (cEs_plain h)]
  refine many S ih hA R s _ _ h I (PE.bind p) fun tvs vs h' tk q g y _ => ?_
  obtain ⟨tv, e, K⟩ := q.lift
  obtain ⟨ds, e1, e2⟩ := Option.bind_eq_some_iff.mp e
  split at e2
  · rename_i hz
    cases e2
    obtain ⟨f1, as, r⟩ := datas_reads y e1
    have hl := readsAll_length r
    have hz' := okSize_le hz
    exact ⟨by rw [sizeLine_eq]; omega, K _ _ _ (g.trans (.of_stays (stays_push _ _))) ⟨f1, lst_new r rfl, _, rfl, g.none (Heap.get?_none_of_le (Nat.le_refl _))⟩⟩
  · cases e2
end
end NP
end
section
open PySem PySem.Calls PyProof.Rows PySem.W PySem.Spec
set_option maxRecDepth 100000
namespace NP

section
variable {W : Wd} {C : Fm} {n : Nat} {Φ : Nat → List TV → Option (Out TV)} {fn : Str → Option Nat}


theorem evBs_two {σ : Store} {isAnd : Bool} {c c' : CE} {cs : List CE} : evBs Φ isAnd (c :: c' :: cs) σ = ebind (evE Φ c σ) fun v => match truth v with
    | some b => if b = isAnd then evBs Φ isAnd (c' :: cs) σ else some (.ok v)
    | none => none := rfl
theorem evBs_one {σ : Store} {isAnd : Bool} {c : CE} : evBs Φ isAnd [c] σ = evE Φ c σ := rfl

noncomputable def opOf (isAnd : Bool) : BoolOp := if isAnd then .And else .Or
theorem boolOp_go {M : Model} {A : Around} {s : Shared} {E : Value → Shared → Prop} {Q : Value → Shared → Prop} {pos : Pos} {isAnd : Bool} {x y : Sem Value} {rest : List (Sem Value)}
    (h : wpAny M A x (fun v s₁ => wpAny M A (truthy v) (fun t s₂ => if t = isAnd then wpAny M A (boolOp pos (opOf isAnd) (y :: rest)) Q E s₂ else Q v s₂) E s₁) E s) :
    wpAny M A (boolOp pos (opOf isAnd) (x :: y :: rest)) Q E s := by
  show wpAny M A (do
    let v ← x
    standAt pos
    let t ← holding [v] (truthy v)
    match opOf isAnd, t with
    | .And, false | .Or, true => pure v
    | _, _ => boolOp pos (opOf isAnd) (y :: rest)) Q E s
  refine wpAny_bind (wpAny_mono h (fun v s₁ h₁ => wpAny_bind (wpAny_standAt (wpAny_bind (wpAny_holding (wpAny_mono h₁ (fun t s₂ h₂ => ?_) fun _ _ x => x))))) fun _ _ x => x)
  cases isAnd <;> cases t <;> first | exact h₂ | exact wpAny_pure h₂

theorem evalEach_cons {e : Expr} {r : List Expr} {env : Env} : evalEach (e :: r) env = eval e env :: evalEach r env := rfl

theorem bools (S : FS W C) {f : Expr → Option CE} (ih : ∀ e c, f e = some c → SndE W C n Φ e c) {A : Around} (hA : A.frames = some (C.env :: C.envs)) (R : Rm n A) {σ : Store} {E : Value → Shared → Prop} {pos : Pos} {isAnd : Bool} :
    ∀ (r : List Expr) (e : Expr) (cs : List CE) (s : Shared) (Q : Value → Shared → Prop), cEs f (e :: r) = some cs → FI C s.heap σ → PE W C s (KE W C s Q) E (evBs Φ isAnd cs σ) →
      wpAny (model W.prog W.w) A (boolOp pos (opOf isAnd) (evalEach (e :: r) C.env)) Q E s
  | [], e, cs, s, Q, h, I, p => by
    obtain ⟨c, cs', h1, h2, rfl⟩ := cEs_cons h
    cases h2
    rw [evBs_one] at p
    exact ih e c h1 A s σ Q E hA R I p
  | e' :: r, e, cs, s, Q, h, I, p => by
    obtain ⟨c, cs', h1, h2, rfl⟩ := cEs_cons h
    obtain ⟨c', cs'', h3, h4, rfl⟩ := cEs_cons h2
    rw [evBs_two] at p
    refine boolOp_go ((ih e c h1).then S hA R I (PE.bind p) fun tv v h' tk q g y I1 => ?_)
    try dsimp only at q
    split at q
    · rename_i b hb
      refine truth_sound y.vrd hb ?_
      split at q
      · rename_i hq
        rw [if_pos hq]
        exact bools S ih hA R r e' _ { s with heap := h', toks := tk } Q h2 I1 ((PE.move g q).mono fun _ K => KE.move g K)
      · rename_i hq
        rw [if_neg hq]
        exact q _ h' _ g y
    · exact q.elim

theorem tests (S : FS W C) {f : Expr → Option CE} (ih : ∀ e c, f e = some c → SndT W C n Φ e c) {A : Around} (hA : A.frames = some (C.env :: C.envs)) (R : Rm n A) {σ : Store} {E : Value → Shared → Prop} {isAnd : Bool} :
    ∀ (es : List Expr) (cs : List CE) (s : Shared) (Q : Bool → Shared → Prop), cEs f es = some cs → FI C s.heap σ → PE W C s (KT C s Q) E (evTs Φ isAnd cs σ) →
      wpAny (model W.prog W.w) A (allTrue (opOf isAnd) es C.env) Q E s
  | [], cs, s, Q, h, I, p => by
    cases h
    have p : PE W C s (KT C s Q) E (some (.ok isAnd)) := p
    cases isAnd
    · exact wpAny_allTrue_Or_nil (p _ s.toks (Grow.refl _ _))
    · exact wpAny_allTrue_And_nil (p _ s.toks (Grow.refl _ _))
  | e :: r, cs, s, Q, h, I, p => by
    obtain ⟨c, cs', h1, h2, rfl⟩ := cEs_cons h
    have p : PE W C s (KT C s Q) E (ebind (evT Φ c σ) fun b => if b = isAnd then evTs Φ isAnd cs' σ else some (.ok b)) := p
    have key : wpAny (model W.prog W.w) A (isTrue e C.env (eval e C.env)) (fun b s₁ => if b = isAnd then wpAny (model W.prog W.w) A (allTrue (opOf isAnd) r C.env) Q E s₁ else Q b s₁) E s := by
      refine (ih e c h1).then S hA R I (PE.bind p) fun b h' tk q g I1 => ?_
      split at q
      · rename_i hb
        rw [if_pos hb]
        exact tests S ih hA R r _ { s with heap := h', toks := tk } Q h2 I1 ((PE.move g q).mono fun _ K h'' tk' g' => K h'' tk' (g.trans g'))
      · rename_i hb
        rw [if_neg hb]
        exact q h' tk g
    cases isAnd
    · refine wpAny_allTrue_Or_cons (wpAny_mono key (fun b s₁ hb => ?_) fun _ _ x => x)
      cases b
      · exact hb
      · exact hb
    · refine wpAny_allTrue_And_cons (wpAny_mono key (fun b s₁ hb => ?_) fun _ _ x => x)
      cases b
      · exact hb
      · exact hb

theorem snd_bool (S : FS W C) {f : Expr → Option CE} (ih : ∀ e c, f e = some c → SndE W C n Φ e c ∧ SndT W C n Φ e c) {isAnd : Bool} {es : List Expr} {cs : List CE} {p : Pos} (h : cEs f es = some cs) :
    SndE W C n Φ (.BoolOp (opOf isAnd) es p) (.boolop isAnd cs) ∧ SndT W C n Φ (.BoolOp (opOf isAnd) es p) (.boolop isAnd cs) := by
  constructor
  · intro A s σ Q E hA R I q
    have q' : PE W C s (KE W C s Q) E (evBs Φ isAnd cs σ) := q
    rw [arm_eval_BoolOp]
    cases es with
    | nil => cases h; exact (show False from q').elim
    | cons e r => exact bools S (fun e c h => (ih e c h).1) hA R r e cs s Q h I q'
  · intro A s σ Q E hA R I q
    exact wpAny_isTrue_BoolOp (tests S (fun e c h => (ih e c h).2) hA R es cs s Q h I q)


theorem PE.toPC {s : Shared} {Q E : Value → Shared → Prop} {r : Option (Out TV)} (p : PE W C s (KE W C s Q) E r) : PC W (C.env :: C.envs) s Q E r := by
  cases r with
  | none => exact p
  | some o => cases o with
    | ok tv => exact p
    | exc t ec => exact fun e h' tk g y => p e h' tk g (y.xs C.L)

theorem snd_call (S : FS W C) (O : WOK W) (H : Calls W fn n Φ) {f : Expr → Option CE} (ih : ∀ e c, f e = some c → SndE W C n Φ e c) {x : Str} {i : Nat} {q p : Pos} {es : List Expr} {cs : List CE} (hx : C.sc.names.lookup x = some .globalImplicit)
    (hd : (x == Str.ofString "__debug__") = false) (hf : fn x = some i) (h : cEs f es = some cs) : SndE W C n Φ (.Call (.Name x q) es [] p) (.call i cs) ∧ SndT W C n Φ (.Call (.Name x q) es [] p) (.call i cs) := by
  have k : SndE W C n Φ (.Call (.Name x q) es [] p) (.call i cs) := fun A s σ Q E hA R I z => by
    obtain ⟨a, o, fd, e1, e2, e3, hc⟩ := H x i hf
    refine wpAny_Call_NameR (name_global S O I hx hd e1 ?_)
    rw [starEach_plain (cEs_plain h)]
    refine Calls.callWith_function (o := o) (fd := fd) (evalArgs_map (many S ih hA R s _ _ h I (PE.bind z) fun tvs vs h' tk q g y I1 => ?_))
    exact ⟨⟨I1.stays S a o e2, e3⟩, hc tvs A _ { s with heap := h', toks := tk } vs Q E hA R (I1.stays S) (I1.frames S) y ((PE.move g q).mono fun _ K => KE.move g K).toPC⟩
  refine ⟨k, sndT_value S k rfl fun σ => ?_⟩
  show ebind _ _ = ebind (ebind _ _) _
  cases evEs Φ cs σ with
  | none => rfl
  | some o => cases o <;> rfl


theorem blt1 (S : FS W C) (O : WOK W) {x : String} {v : Value} {F : TV → Option TV} (hm : x ∈ ["len", "ord", "abs", "str", "min", "max", "range"]) (hv : bootBuiltins (Str.ofString x) = some v) (hn : Str.ofString x ≠ Str.ofString "__name__")
    (hd : (Str.ofString x == Str.ofString "__debug__") = false) (hk : (∃ i, v = .builtin i) ∨ ∃ T, v = .type T)
    (rule : ∀ (A : Around) (s : Shared) (u : Value) (a tv : TV) (Q E : Value → Shared → Prop), Rm n A → VRd s.heap u a → F a = some tv → OpK W s Q tv → wpAny (model W.prog W.w) A (call v [u]) Q E s)
    {e : Expr} {c : CE} {q p : Pos} (hx : C.sc.names.lookup (Str.ofString x) = some .globalImplicit) (i1 : SndE W C n Φ e c) (hs : isStarred e = false) {cc : CE} (hc : ∀ σ, evE Φ cc σ = ebind (evE Φ c σ) fun x => lift (F x)) :
    SndE W C n Φ (.Call (.Name (Str.ofString x) q) [e] [] p) cc := fun A s σ Q E hA R I z => by
  rw [hc] at z
  refine call_named rfl hk (by intro e' he'; rcases List.mem_cons.mp he' with rfl | he'; exact hs; cases he') (fun Q' h' => name_builtin S O I hx hm hv hn hd h') ?_
  refine Calls.spliced_cons (i1.then S hA R I (PE.bind z) fun tv u h' tk q g y _ => Calls.spliced_nil ?_)
  obtain ⟨tv', e', K⟩ := q.lift
  exact rule A _ u tv tv' Q E R y.vrd e' (K.op g)
theorem blt2 (S : FS W C) (O : WOK W) {x : String} {v : Value} {F : TV → TV → Option TV} (hm : x ∈ ["len", "ord", "abs", "str", "min", "max", "range"]) (hv : bootBuiltins (Str.ofString x) = some v) (hn : Str.ofString x ≠ Str.ofString "__name__")
    (hd : (Str.ofString x == Str.ofString "__debug__") = false) (hk : (∃ i, v = .builtin i) ∨ ∃ T, v = .type T)
    (rule : ∀ (A : Around) (s : Shared) (u u' : Value) (a b tv : TV) (Q E : Value → Shared → Prop), Rm n A → VRd s.heap u a → VRd s.heap u' b → F a b = some tv → OpK W s Q tv → wpAny (model W.prog W.w) A (call v [u, u']) Q E s)
    {e₁ e₂ : Expr} {c₁ c₂ : CE} {q p : Pos} (hx : C.sc.names.lookup (Str.ofString x) = some .globalImplicit) (i1 : SndE W C n Φ e₁ c₁) (i2 : SndE W C n Φ e₂ c₂) (hs1 : isStarred e₁ = false) (hs2 : isStarred e₂ = false)
    {cc : CE} (hc : ∀ σ, evE Φ cc σ = ebind (evE Φ c₁ σ) fun x => ebind (evE Φ c₂ σ) fun y => lift (F x y)) :
    SndE W C n Φ (.Call (.Name (Str.ofString x) q) [e₁, e₂] [] p) cc := fun A s σ Q E hA R I z => by
  rw [hc] at z
  refine call_named rfl hk (by intro e' he'; rcases List.mem_cons.mp he' with rfl | he'; exact hs1; rcases List.mem_cons.mp he' with rfl | he'; exact hs2; cases he') (fun Q' h' => name_builtin S O I hx hm hv hn hd h') ?_
  refine Calls.spliced_cons (wpAny_mono (two (Q := fun v' w' s₂ => wpAny (model W.prog W.w) A (call v [v', w']) Q E s₂) i1 i2 S hA R I z fun a b u u' h₂ t₂ q g y1 y2 _ => ?_) (fun v' s₁ h₁ => Calls.spliced_cons (wpAny_mono h₁ (fun w' s₂ h₂ => Calls.spliced_nil h₂) fun _ _ x => x)) fun _ _ x => x)
  obtain ⟨tv', e', K⟩ := q.lift
  exact rule A _ u u' a b tv' Q E R y1 y2 e' (K.op g)

section
variable {A : Around} {s : Shared} {u u' : Value} {a b tv : TV} {Q E : Value → Shared → Prop}
theorem len_sound (_R : Rm n A) (hx : VRd s.heap u a) (h : lenop a = some tv) (hQ : OpK W s Q tv) : wpAny (model W.prog W.w) A (call (.builtin "len") [u]) Q E s := by
  unfold lenop at h
  split at h
  · split at h
    · rename_i hz
      unfold strTop at hz
      cases h; obtain ⟨t, rfl⟩ := vrd_str hx
      exact PyProof.Rows.len_str (by omega) (hQ _ s.heap _ (stays_refl _) (tr_int _ _))
    · cases h
  · split at h
    · rename_i hz
      unfold strTop at hz
      cases h; obtain ⟨_, l, vs, as, rfl, ht, _, r⟩ := vrd_tuple hx
      have hl := readsAll_length r
      refine PyProof.Rows.len_tuple ht (by rw [List.size_toArray]; omega) ?_
      rw [List.size_toArray, hl]
      exact hQ _ s.heap _ (stays_refl _) (tr_int _ _)
    · cases h
  · split at h
    · rename_i hz
      unfold strTop at hz
      cases h; obtain ⟨_, l, vs, as, rfl, ht, r⟩ := vrd_list hx
      have hl := readsAll_length r
      refine PyProof.Rows.len_list ht (by rw [List.size_toArray]; omega) ?_
      rw [List.size_toArray, hl]
      exact hQ _ s.heap _ (stays_refl _) (tr_int _ _)
    · cases h
  · cases h
theorem ord_sound (_R : Rm n A) (hx : VRd s.heap u a) (h : ordop a = some tv) (hQ : OpK W s Q tv) : wpAny (model W.prog W.w) A (call (.builtin "ord") [u]) Q E s := by
  unfold ordop at h
  split at h
  · split at h
    · rename_i hz
      cases h; obtain ⟨t, rfl⟩ := vrd_str hx
      exact PyProof.Rows.ord_of_one hz (hQ _ s.heap _ (stays_refl _) (tr_int _ _))
    · cases h
  · cases h
theorem abs_sound (_R : Rm n A) (hx : VRd s.heap u a) (h : absop a = some tv) (hQ : OpK W s Q tv) : wpAny (model W.prog W.w) A (call (.builtin "abs") [u]) Q E s := by
  unfold absop at h
  split at h
  · cases h; obtain ⟨t, rfl⟩ := vrd_int hx
    exact PyProof.Rows.call_abs_int fun t' tk => hQ _ s.heap _ (stays_refl _) (tr_int _ _)
  · cases h
theorem str_sound (_R : Rm n A) (hx : VRd s.heap u a) (h : strop a = some tv) (hQ : OpK W s Q tv) : wpAny (model W.prog W.w) A (call (.type "str") [u]) Q E s := by
  unfold strop at h
  split at h
  · split at h
    · rename_i hz
      cases h; obtain ⟨t, rfl⟩ := vrd_int hx
      exact PySem.P.str_of_int (by have := top_log hz; omega) (hQ _ s.heap _ (stays_refl _) (tr_str _ _))
    · cases h
  · cases h; obtain ⟨t, rfl⟩ := vrd_str hx
    exact PySem.P.str_of_str (hQ _ s.heap s.toks (stays_refl _) (tr_str _ _))
  · cases h
theorem min_sound (R : Rm n A) (hx : VRd s.heap u a) (hy : VRd s.heap u' b) (h : minop a b = some tv) (hQ : OpK W s Q tv) : wpAny (model W.prog W.w) A (call (.builtin "min") [u, u']) Q E s := by
  unfold minop at h
  split at h
  · cases h; obtain ⟨t, rfl⟩ := vrd_int hx; obtain ⟨t', rfl⟩ := vrd_int hy
    refine min_two_ints R.hh fun h' tk k => ?_
    split
    · rename_i hc; have := hQ (.int _ t') h' tk k (by rw [if_pos hc]; exact tr_int _ _); exact this
    · rename_i hc; have := hQ (.int _ t) h' tk k (by rw [if_neg hc]; exact tr_int _ _); exact this
  · cases h
theorem max_sound (R : Rm n A) (hx : VRd s.heap u a) (hy : VRd s.heap u' b) (h : maxop a b = some tv) (hQ : OpK W s Q tv) : wpAny (model W.prog W.w) A (call (.builtin "max") [u, u']) Q E s := by
  unfold maxop at h
  split at h
  · cases h; obtain ⟨t, rfl⟩ := vrd_int hx; obtain ⟨t', rfl⟩ := vrd_int hy
    refine max_two_ints R.hh fun h' tk k => ?_
    split
    · rename_i hc; have := hQ (.int _ t') h' tk k (by rw [if_pos hc]; exact tr_int _ _); exact this
    · rename_i hc; have := hQ (.int _ t) h' tk k (by rw [if_neg hc]; exact tr_int _ _); exact this
  · cases h
end
end
end NP
end
section
open PySem PySem.Calls PyProof.Rows PySem.W PySem.Spec
set_option maxRecDepth 100000
namespace NP

section
variable {W : Wd} {C : Fm} {n : Nat} {Φ : Nat → List TV → Option (Out TV)} {fn : Str → Option Nat}


theorem sub_plain {e : Expr} (h : isSlice e = false) (o i : Value) : subscripted e false o i = operate [o, i] (getItem o i) := by
  cases e <;> first | rfl | (simp [isSlice] at h; done)

theorem item_at {s : Shared} {xs : List PyData} {vs : List Value} {as : List Addr} {k : Int} {tv : TV} (f : flats xs = true) (r : ReadsAll s.heap vs xs as) (h : itemop xs k = some tv) :
    ∃ v, 0 ≤ k ∧ k.toNat < vs.length ∧ vs.length ≤ 1000 ∧ vs[k.toNat]? = some v ∧ ∀ {CR hb}, TR CR hb s.heap v tv := by
  obtain ⟨hz, h1⟩ := ite_inv h
  obtain ⟨d, hc, rfl⟩ := map_inv h1
  obtain ⟨v, bs, hv, r'⟩ := readsAll_get r hc
  have hl := readsAll_length r
  exact ⟨v, hz.1, (List.getElem?_eq_some_iff.mp hv).1, by omega, hv, ⟨.inl (flats_get f hc), _, r'⟩⟩
theorem subop_sound {A : Around} {s : Shared} {value slice : Expr} {u u' : Value} {a b tv : TV} {Q E : Value → Shared → Prop} (hs : isSlice slice = false) (hx : VRd s.heap u a) (hy : VRd s.heap u' b) (h : subop a b = some tv) (hQ : OpK W s Q tv) :
    wpAny (model W.prog W.w) A (subscriptTail value slice u u') Q E s := by
  obtain ⟨k, h1, h2⟩ := bind_inv h
  obtain rfl := asInt_inv h1
  obtain ⟨t', rfl⟩ := vrd_int hy
  rcases or_inv h2 with ⟨x, h3, h4⟩ | h3
  · obtain rfl := asStr_inv h3
    obtain ⟨d, hd, rfl⟩ := map_inv h4
    obtain ⟨hz, h5⟩ := ite_inv hd
    obtain ⟨c, hc, rfl⟩ := map_inv h5
    obtain ⟨t, rfl⟩ := vrd_str hx
    have hlt : k.toNat < x.cps.size := (Array.getElem?_eq_some_iff.mp hc).1
    have hz2 := hz.2
    unfold strTop PySem.Str.length at hz2
    refine tail_any (typeIs_str s x t) PySem.F.slot_str_getitem.lookup (PyProof.Rows.getItem_str ?_ ?_ (hQ _ s.heap _ (stays_refl _) (tr_str _ _))) (sub_plain hs _ _)
    · simp only [Bool.or_eq_false_iff, decide_eq_false_iff_not]
      constructor <;> omega
    · rw [seqIndex_of hz.1 (by show k < (x.cps.size : Int); omega)]
      exact hc
  · rcases or_inv h3 with ⟨xs, h4, h5⟩ | h4
    · obtain rfl := asTup_inv h4
      obtain ⟨f, l, vs, as, rfl, ht, _, r⟩ := vrd_tuple hx
      obtain ⟨v, z1, z2, z3, hv, y⟩ := item_at f r h5
      exact tail_any ht.typeIs slot_tuple_getitem.lookup (PyProof.Rows.getItem_tuple ht (by omega) (by omega) (seqIndex_of z1 (by simp only [List.size_toArray]; omega)) (by simpa using hv) (hQ _ s.heap s.toks (stays_refl _) y)) (sub_plain hs _ _)
    · obtain ⟨xs, h5, h6⟩ := bind_inv h4
      obtain rfl := asList_inv h5
      obtain ⟨f, l, vs, as, rfl, ht, r⟩ := vrd_list hx
      obtain ⟨v, z1, z2, z3, hv, y⟩ := item_at f r h6
      exact tail_any ht.typeIs slot_list_getitem.lookup (wpAny_getItem_list ht z1 (by omega) (by simpa using hv) (hQ _ s.heap s.toks (stays_refl _) y)) (sub_plain hs _ _)

theorem snd_sub (S : FS W C) {v i : Expr} {p : Pos} {a b : CE} (hs : isSlice i = false) (i1 : SndE W C n Φ v a) (i2 : SndE W C n Φ i b) : SndE W C n Φ (.Subscript v i p) (.sub a b) :=
  fun A s σ Q E hA R I q => Subscript_ (two i1 i2 S hA R I q fun x y u w h₂ t₂ q g y1 y2 _ => by
    obtain ⟨tv, e, K⟩ := q.lift
    exact subop_sound (W := W) hs y1 y2 e (K.op g))

theorem snd_slice (S : FS W C) {v lo hi : Expr} {p p' : Pos} {a b c : CE} (hn : isName v = true) (i1 : SndE W C n Φ v a) (i2 : SndE W C n Φ lo b) (i3 : SndE W C n Φ hi c) : SndE W C n Φ (.Subscript v (.Slice (some lo) (some hi) none p') p) (.slice a b c) :=
  fun A s σ Q E hA R I q => by
    refine wpAny_Subscript_str_slice (i1.then S hA R I (PE.bind q) fun x u h1 t1 q1 g1 y1 I1 => ?_) (by cases v <;> first | (intro _ _; rfl) | (simp [isName] at hn; done))
    rw [evalPart_some]
    refine wpAny_mono (two (s := { s with heap := h1, toks := t1 }) (Q := fun vl vu s₃ => ∃ x t l u', u = .str x t ∧ vl = partValue l ∧ vu = partValue u' ∧ (sliceMade x t l u' none).post Q { s₃ with heap := s₃.heap.push { cls := .type "slice", data := .fields #[vl, vu, .none] } })
      i2 i3 S hA R I1 (PE.move g1 q1) fun y z w w' h₂ t₂ q g y2 y3 _ => ?_) (fun vl s₂ h₂ => by rw [evalPart_some]; exact h₂) fun _ _ x => x
    obtain ⟨tv, e, K⟩ := q.lift
    obtain ⟨x, e1, e2⟩ := bind_inv e
    obtain ⟨i, e3, e4⟩ := bind_inv e2
    obtain ⟨j, e5, e6⟩ := bind_inv e4
    obtain ⟨hz, e7⟩ := ite_inv e6
    obtain rfl := asStr_inv e1; obtain rfl := asInt_inv e3; obtain rfl := asInt_inv e5
    cases e7
    obtain ⟨t, rfl⟩ := vrd_str y1.vrd; obtain ⟨ti, rfl⟩ := vrd_int y2; obtain ⟨tj, rfl⟩ := vrd_int y3
    have hsl := eq_of_beq (slice_closes (x := x) (i := i) (j := j) ⟨hz.1, hz.2.1, hz.2.2.1⟩)
    have hz4 := hz.2.2.2
    unfold strTop at hz4
    refine ⟨x, t, some (i, ti), some (j, tj), rfl, rfl, rfl, post_val_or_str ⟨Nat.le_trans (Txt.slice_le x (some i) (some j)) (by rw [sizeLine_eq]; omega), fun t' k => ?_⟩⟩
    have := K (.str (Txt.slice x (some i) (some j)) t') (h₂.push { cls := .type "slice", data := .fields #[.int i ti, .int j tj, .none] }) k ((g1.trans g).trans (.of_stays (stays_push _ _))) (by rw [hsl]; exact tr_str _ _)
    exact this


theorem base_plain {o : Expr} (h : isBase o = true) (m : Str) (env : Env) (t : Sem Value) : attributeBase o m env t = t := by
  cases o <;> first | rfl | (simp [isBase] at h; done)

theorem snd_lower (S : FS W C) {o : Expr} {p ap : Pos} {a : CE} (hb : isBase o = true) (hl : (ap.endLine == p.line) = true) (i1 : SndE W C n Φ o a) : SndE W C n Φ (.Call (.Attribute o (Str.ofString "lower") ap) [] [] p) (.lower a) :=
  fun A s σ Q E hA R I q => Call_method0 (base_plain hb _ _ _) hl (i1.then S hA R I (PE.bind q) fun x u h1 t1 q1 g1 y1 _ => by
    obtain ⟨tv, e, K⟩ := q1.lift
    unfold lowerop at e
    split at e
    · split at e
      · rename_i hz
        unfold strTop at hz
        cases e; obtain ⟨t, rfl⟩ := vrd_str y1.vrd
        exact ⟨"str", "str.lower", PySem.F.plainAttrs_str, PySem.F.slot_str_lower, PySem.F.type_str_lower, typeIs_str _ _ _, (fun _ e => nomatch e),
          Calls.callWith_builtin rfl (evalArgs_map (es := []) (env := C.env) (Calls.spliced_nil (SCL.lower (by omega) fun _ => K.op g1 _ h1 _ (stays_refl _) (tr_str _ _))))⟩
      · cases e
    · cases e)

theorem isStr_of {x : TV} (h : isStr x = true) : ∃ z, x = .val (.str z) := by
  unfold isStr at h
  split at h
  · exact ⟨_, rfl⟩
  · cases h

theorem snd_meth1 (S : FS W C) {o r : Expr} {m : Str} {id : String} {p ap : Pos} {a b cc : CE} {F : TV → TV → Option TV} (hb : isBase o = true) (hl : (ap.endLine == p.line) = true) (hs : isStarred r = false) (slot : Slot "str" m id) (ty : typeOf (.builtin id) = pure (.type "method_descriptor"))
    (rule : ∀ (A : Around) (s : Shared) (u u' : Value) (x y tv : TV) (Q E : Value → Shared → Prop), Rm n A → VRd s.heap u x → VRd s.heap u' y → F x y = some tv → OpK W s Q tv → wpAny (model W.prog W.w) A (call (.builtin id) [u, u']) Q E s)
    (hc : ∀ σ, evE Φ cc σ = ebind (evE Φ a σ) fun x => if isStr x then ebind (evE Φ b σ) fun y => lift (F x y) else none)
    (i1 : SndE W C n Φ o a) (i2 : SndE W C n Φ r b) : SndE W C n Φ (.Call (.Attribute o m ap) [r] [] p) cc := fun A s σ Q E hA R I q => by
  rw [hc] at q
  have he : starEach [r] C.env = [(false, eval r C.env)] := by
    cases r <;> first | rfl | (simp [isStarred] at hs; done)
  refine Call_method1 (base_plain hb _ _ _) he hl (i1.then S hA R I (PE.bind q) fun x u h1 t1 q1 g1 y1 I1 => ?_)
  split at q1
  · rename_i hz
    obtain ⟨z, rfl⟩ := isStr_of hz
    obtain ⟨t, rfl⟩ := vrd_str y1.vrd
    refine ⟨"str", id, PySem.F.plainAttrs_str, slot, ty, typeIs_str _ _ _, (fun _ e => nomatch e), Calls.callWith_builtin rfl (evalArgs_map (es := [r]) (env := C.env) ?_)⟩
    refine Calls.spliced_cons (i2.then (s := { s with heap := h1, toks := t1 }) S hA R I1 (PE.move g1 q1).bind fun y w h2 t2 q2 g2 y2 _ => Calls.spliced_nil ?_)
    obtain ⟨tv, e, K⟩ := q2.lift
    exact rule A _ _ w _ y tv Q E R (y1.vrd.up g2.up) y2.vrd e (K.op (g1.trans g2))
  · exact q1.elim

section
variable {A : Around} {s : Shared} {u u' : Value} {a b tv : TV} {Q E : Value → Shared → Prop}
theorem starts_sound (_R : Rm n A) (hx : VRd s.heap u a) (hy : VRd s.heap u' b) (h : startsop a b = some tv) (hQ : OpK W s Q tv) : wpAny (model W.prog W.w) A (call (.builtin "str.startswith") [u, u']) Q E s := by
  unfold startsop at h
  split at h
  · cases h; obtain ⟨t, rfl⟩ := vrd_str hx; obtain ⟨t', rfl⟩ := vrd_str hy
    exact SC.startswith (hQ _ s.heap s.toks (stays_refl _) (tr_bool _))
  · cases h
theorem strsOf_are {h : Heap} : ∀ {vs : List Value} {ds : List PyData} {as : List Addr} {ys : List Str}, ReadsAll h vs ds as → strsOf ds = some ys → StrsAre vs ys
  | _, _, _, ys, .nil, e => by cases e; exact .nil
  | _, _, _, ys, .cons h1 h2, e => by
    cases h1 with
    | str x t =>
      obtain ⟨zs, e', rfl⟩ := Option.map_eq_some_iff.mp e
      exact .cons x t (strsOf_are h2 e')
    | _ => cases e
theorem join_sound (_R : Rm n A) (hx : VRd s.heap u a) (hy : VRd s.heap u' b) (h : joinop a b = some tv) (hQ : OpK W s Q tv) : wpAny (model W.prog W.w) A (call (.builtin "str.join") [u, u']) Q E s := by
  unfold joinop at h
  split at h
  · obtain ⟨ys, e1, h⟩ := Option.bind_eq_some_iff.mp h
    split at h
    · rename_i hz
      unfold strTop at hz
      cases h; obtain ⟨t, rfl⟩ := vrd_str hx; obtain ⟨_, l, vs, as, rfl, ht, r⟩ := vrd_list hy
      exact PyProof.Rows.join_list ht (strsOf_are r e1) (by omega) fun t' k => hQ _ s.heap _ (stays_refl _) (tr_str _ _)
    · cases h
  · cases h
end


theorem snd_part (S : FS W C) {f : Expr → Option CE} (ih : ∀ e c, f e = some c → SndE W C n Φ e c) {e : Expr} {c : CE} (h : cPart f e = some c) {A : Around} (hA : A.frames = some (C.env :: C.envs)) (R : Rm n A) {s : Shared} {σ : Store} (I : FI C s.heap σ)
    {E : Value → Shared → Prop} {acc : Str} {K : Str → Prop} {cs : List CE} {Q : Value → Shared → Prop} (p : PE W C s K E (evF Φ acc (c :: cs) σ))
    (k : ∀ x t h' tk, PE W C { s with heap := h', toks := tk } K E (evF Φ (acc ++ x) cs σ) → acc.length + x.length ≤ strTop → Grow C.fr s.heap h' → FI C h' σ → Q (.str x t) { s with heap := h', toks := tk }) :
    wpAny (model W.prog W.w) A (eval e C.env) Q E s := by
  have p : PE W C s K E (ebind (evE Φ c σ) fun v => match v with
    | .val (.str x) => if acc.length + x.length ≤ strTop then evF Φ (acc ++ x) cs σ else none
    | _ => none) := p
  have key : (∃ x k q, e = .Constant (.str x) k q ∧ c = .lit (.str x)) ∨ ∃ v q, e = .FormattedValue v (-1) none q ∧ f v = some c := by
    unfold cPart at h
    split at h
    · rename_i c' _ _
      cases c' with
      | str x => cases h; exact .inl ⟨_, _, _, rfl, rfl⟩
      | _ => cases h
    · obtain ⟨h1, h2⟩ := ite_inv h
      obtain ⟨h3, h4⟩ := Bool.and_eq_true_iff.mp h1
      obtain rfl := eq_of_beq h3
      obtain rfl := isNone_inv h4
      exact .inr ⟨_, _, rfl, h2⟩
    · cases h
  rcases key with ⟨x, k', q', rfl, rfl⟩ | ⟨v, q', rfl, h⟩
  · refine wpAny_Constant_str ?_
    have p' : PE W C s K E (if acc.length + x.length ≤ strTop then evF Φ (acc ++ x) cs σ else none) := p
    split at p'
    · rename_i hz
      exact k x _ s.heap _ (PE.move (Grow.refl _ _) p') hz (Grow.refl _ _) I
    · exact p'.elim
  · refine wpAny_FormattedValue_plain ((ih _ _ h).then S hA R I (PE.bind p) fun tv v h' tk q g y I1 => ?_)
    split at q
    · rename_i x
      split at q
      · rename_i hz
        obtain ⟨t, rfl⟩ := vrd_str y.vrd
        refine wpAny_formatField_str (k x _ h' tk (PE.move g q) hz g I1) (k x _ h' _ (PE.move g q) hz g I1) ?_
        unfold strTop at hz
        rw [sizeLine_eq]
        omega
      · exact q.elim
    · exact q.elim
theorem cParts_cons {f : Expr → Option CE} {e : Expr} {r : List Expr} {cs : List CE} (h : cParts f (e :: r) = some cs) : ∃ c cs', cPart f e = some c ∧ cParts f r = some cs' ∧ cs = c :: cs' := by
  simp only [cParts, Option.bind_eq_some_iff, Option.map_eq_some_iff] at h
  obtain ⟨c, q, cs', q', rfl⟩ := h
  exact ⟨c, cs', q, q', rfl⟩
theorem joins (S : FS W C) {f : Expr → Option CE} (ih : ∀ e c, f e = some c → SndE W C n Φ e c) {A : Around} (hA : A.frames = some (C.env :: C.envs)) (R : Rm n A) {σ : Store} {E : Value → Shared → Prop} :
    ∀ (es : List Expr) (cs : List CE) (acc : Str) (s : Shared) (K : Str → Prop) (Q : Str → Shared → Prop), cParts f es = some cs → FI C s.heap σ → PE W C s K E (evF Φ acc cs σ) → acc.length ≤ strTop →
      (∀ out h' tk, K out → Grow C.fr s.heap h' → out.length ≤ strTop → Q out { s with heap := h', toks := tk }) → Joins (model W.prog W.w) A E (evalEach es C.env) acc Q s
  | [], cs, acc, s, K, Q, h, I, p, hz, k => by
    cases h
    exact k acc s.heap s.toks p (Grow.refl _ _) hz
  | e :: r, cs, acc, s, K, Q, h, I, p, hz, k => by
    obtain ⟨c, cs', h1, h2, rfl⟩ := cParts_cons h
    refine snd_part S ih h1 hA R I p fun x t h' tk q hq g I1 => ⟨x, t, rfl, ?_, ?_⟩
    · rw [strLen_append, sizeLine_eq]
      unfold strTop at hq
      omega
    · exact joins S ih hA R r cs' (acc ++ x) { s with heap := h', toks := tk } K Q h2 I1 q (by rw [strLen_append]; exact hq) fun out h'' tk' a g' b => k out h'' tk' a (g.trans g') b
theorem snd_fstr (S : FS W C) {f : Expr → Option CE} (ih : ∀ e c, f e = some c → SndE W C n Φ e c) {es : List Expr} {cs : List CE} {p : Pos} (h : cParts f es = some cs) (hl : ¬ es.length ≤ 1) : SndE W C n Φ (.JoinedStr es p) (.fstr cs) := fun A s σ Q E hA R I q => by
  match es, hl with
  | [], hl => simp at hl
  | [_], hl => simp at hl
  | e1 :: e2 :: r, _ =>
    refine wpAny_JoinedStr (joins S ih hA R _ cs Str.empty s _ _ h I (PE.bind q) (by decide) fun out h' tk a g hz => ⟨?_, ?_⟩)
    · unfold strTop at hz
      rw [sizeLine_eq]
      omega
    · exact a _ h' _ g (tr_str _ _)


theorem idx_get {xs : List Str} {x : Str} {i : Nat} (h : xs.idxOf? x = some i) : xs[i]? = some x := by
  unfold List.idxOf? at h
  have h1 := List.findIdx?_eq_some_iff_getElem.mp h
  obtain ⟨hi, hp, _⟩ := h1
  rw [List.getElem?_eq_getElem hi]
  exact congrArg some (eq_of_beq hp)

theorem bool_and {a b : Bool} (h : (a && b) = true) : a = true ∧ b = true := Bool.and_eq_true_iff.mp h
theorem bne_of {a b : Str} (h : (a != b) = true) : (a == b) = false := by rw [bne] at h; cases q : a == b with | true => rw [q] at h; cases h | false => rfl
theorem bnot_of {a : Bool} (h : ¬ ((!a) = true)) : a = true := by cases a <;> simp_all

theorem starred_inv {e : Expr} (h : isStarred e = true) : ∃ v p, e = .Starred v p := by
  unfold isStarred at h
  split at h
  · exact ⟨_, _, rfl⟩
  · cases h
theorem cE_star {sc : Scope} {nm : List Str} {k : Nat} {e : Expr} {c : CE} (h : cE sc nm fn k e = some c) : isStarred e = false := by
  cases k with
  | zero => cases h
  | succ k =>
    cases q : isStarred e with
    | false => rfl
    | true =>
      obtain ⟨v, p, rfl⟩ := starred_inv q
      cases h

end
end NP
end
section
open PySem PySem.Calls PyProof.Rows PySem.W PySem.Spec
set_option maxRecDepth 100000
namespace NP

section
variable {W : Wd} {C : Fm} {n : Nat} {Φ : Nat → List TV → Option (Out TV)} {fn : Str → Option Nat}

theorem ne_name (x : String) (h : (Str.ofString x == Str.ofString "__name__") = false) : Str.ofString x ≠ Str.ofString "__name__" := fun e => by rw [e] at h; simp at h

theorem snd_un (S : FS W C) {op : UnaryOp} {x : Expr} {p : Pos} {a c : CE} (h1 : SndE W C n Φ x a ∧ SndT W C n Φ x a) (h : cUn op a = some c) : SndE W C n Φ (.UnaryOp op x p) c ∧ SndT W C n Φ (.UnaryOp op x p) c := by
  cases op with
  | Not => cases h; exact snd_not S h1.1 h1.2
  | USub => cases h; exact ⟨snd_neg S h1.1, sndT_none fun _ => rfl⟩
  | Invert => cases h; exact ⟨snd_inv S h1.1, sndT_none fun _ => rfl⟩
  | UAdd => cases h
theorem snd_const (S : FS W C) {v : Const} {k : Nat} {p : Pos} {c : CE} (h : cConst v = some c) : SndE W C n Φ (.Constant v k p) c ∧ SndT W C n Φ (.Constant v k p) c := by
  cases v with
  | none => cases h; exact snd_lit S (fun A s Q E K => wpAny_Constant_none (K.here tr_none)) rfl
  | bool b => cases h; exact snd_lit S (fun A s Q E K => wpAny_Constant_bool (K.here (tr_bool _))) rfl
  | int i => cases h; exact snd_lit S (fun A s Q E K => wpAny_Constant_int (K.tick (tr_int _ _))) rfl
  | str x => cases h; exact snd_lit S (fun A s Q E K => wpAny_Constant_str (K.tick (tr_str _ _))) rfl
  | _ => cases h
theorem snd_starts (S : FS W C) {o r : Expr} {p ap : Pos} {a b : CE} (hb : isBase o = true) (hl : (ap.endLine == p.line) = true) (hs : isStarred r = false) (i1 : SndE W C n Φ o a) (i2 : SndE W C n Φ r b) :
    SndE W C n Φ (.Call (.Attribute o (Str.ofString "startswith") ap) [r] [] p) (.starts a b) ∧ SndT W C n Φ (.Call (.Attribute o (Str.ofString "startswith") ap) [r] [] p) (.starts a b) := by
  have hk := snd_meth1 (p := p) (cc := .starts a b) S hb hl hs PySem.F.slot_str_startswith PySem.F.type_str_startswith (fun A s u u' x y tv Q E => starts_sound) (fun _ => rfl) i1 i2
  refine ⟨hk, sndT_value S hk rfl fun σ => ?_⟩
  show ebind (evE Φ a σ) _ = ebind (ebind (evE Φ a σ) _) _
  cases evE Φ a σ with
  | none => rfl
  | some o => cases o with
    | exc t ec => rfl
    | ok x =>
      show (if isStr x = true then _ else none) = ebind (if isStr x = true then _ else none) _
      split
      · show ebind (evE Φ b σ) _ = ebind (ebind (evE Φ b σ) _) _
        cases evE Φ b σ with
        | none => rfl
        | some o => cases o with
          | exc t ec => rfl
          | ok y =>
            show lift _ = ebind (lift _) _
            cases startsop x y <;> rfl
      · rfl
theorem snd_blt1 (S : FS W C) (O : WOK W) {g : Str} {e : Expr} {c cc : CE} {q p : Pos} (hd : (g == Str.ofString "__debug__") = false) (hg : C.sc.names.lookup g = some .globalImplicit) (i1 : SndE W C n Φ e c) (hst : isStarred e = false) (h : cBlt1 g c = some cc) :
    SndE W C n Φ (.Call (.Name g q) [e] [] p) cc ∧ SndT W C n Φ (.Call (.Name g q) [e] [] p) cc := by
  unfold cBlt1 at h
  split at h
  · rename_i hm
    obtain rfl := eq_of_beq hm
    cases h
    exact ⟨blt1 S O (by simp) Boot.«len» (ne_name _ (by decide +kernel)) hd (.inl ⟨_, rfl⟩) (fun A s u a tv Q E => len_sound) hg i1 hst (fun _ => rfl), sndT_none fun _ => rfl⟩
  · split at h
    · rename_i hm
      obtain rfl := eq_of_beq hm
      cases h
      exact ⟨blt1 S O (by simp) Boot.«ord» (ne_name _ (by decide +kernel)) hd (.inl ⟨_, rfl⟩) (fun A s u a tv Q E => ord_sound) hg i1 hst (fun _ => rfl), sndT_none fun _ => rfl⟩
    · split at h
      · rename_i hm
        obtain rfl := eq_of_beq hm
        cases h
        exact ⟨blt1 S O (by simp) Boot.«abs» (ne_name _ (by decide +kernel)) hd (.inl ⟨_, rfl⟩) (fun A s u a tv Q E => abs_sound) hg i1 hst (fun _ => rfl), sndT_none fun _ => rfl⟩
      · obtain ⟨hm, h⟩ := ite_inv h
        obtain rfl := eq_of_beq hm
        cases h
        exact ⟨blt1 S O (by simp) Boot.«str» (ne_name _ (by decide +kernel)) hd (.inr ⟨_, rfl⟩) (fun A s u a tv Q E => str_sound) hg i1 hst (fun _ => rfl), sndT_none fun _ => rfl⟩
theorem snd_blt2 (S : FS W C) (O : WOK W) {g : Str} {e e' : Expr} {c c' cc : CE} {q p : Pos} (hd : (g == Str.ofString "__debug__") = false) (hg : C.sc.names.lookup g = some .globalImplicit) (i1 : SndE W C n Φ e c) (i2 : SndE W C n Φ e' c') (hst : isStarred e = false) (hst2 : isStarred e' = false)
    (h : cBlt2 g c c' = some cc) : SndE W C n Φ (.Call (.Name g q) [e, e'] [] p) cc ∧ SndT W C n Φ (.Call (.Name g q) [e, e'] [] p) cc := by
  unfold cBlt2 at h
  split at h
  · rename_i hm
    obtain rfl := eq_of_beq hm
    cases h
    exact ⟨blt2 S O (by simp) Boot.«min» (ne_name _ (by decide +kernel)) hd (.inl ⟨_, rfl⟩) (fun A s u u' a b tv Q E => min_sound) hg i1 i2 hst hst2 (fun _ => rfl), sndT_none fun _ => rfl⟩
  · obtain ⟨hm, h⟩ := ite_inv h
    obtain rfl := eq_of_beq hm
    cases h
    exact ⟨blt2 S O (by simp) Boot.«max» (ne_name _ (by decide +kernel)) hd (.inl ⟨_, rfl⟩) (fun A s u u' a b tv Q E => max_sound) hg i1 i2 hst hst2 (fun _ => rfl), sndT_none fun _ => rfl⟩

section
variable {k : Nat} (ih : ∀ (e : Expr) (c : CE), cE C.sc C.nm fn k e = some c → SndE W C n Φ e c ∧ SndT W C n Φ e c)
include ih
theorem snd_cmps (S : FS W C) {l : Expr} {ops : List CmpOp} {cs : List Expr} {p : Pos} {c : CE} (h : cCmp (cE C.sc C.nm fn k) l ops cs = some c) : SndE W C n Φ (.Compare l ops cs p) c ∧ SndT W C n Φ (.Compare l ops cs p) c := by
  rcases or_inv h with ⟨op, h1, h2⟩ | h1
  · obtain ⟨r, h3, h4⟩ := bind_inv h2
    obtain ⟨hm, h5⟩ := eti_inv h4
    obtain ⟨a, h6, h7⟩ := bind_inv h5
    obtain ⟨b, h8, rfl⟩ := map_inv h7
    obtain rfl := one_inv h1; obtain rfl := one_inv h3
    exact snd_cmp S (by simpa using hm) (ih _ _ h6).1 (ih _ _ h8).1
  · obtain ⟨o, h2, h3⟩ := bind_inv h1
    obtain ⟨q, h4, h5⟩ := bind_inv h3
    obtain ⟨hm, h6⟩ := eti_inv h5
    obtain ⟨a, h7, h8⟩ := bind_inv h6
    obtain ⟨b, h9, h10⟩ := bind_inv h8
    obtain ⟨b', h11, rfl⟩ := map_inv h10
    obtain rfl := two_inv h2; obtain rfl := two_inv h4
    exact snd_cmp2 S (by simpa [lastMarks] using hm) (ih _ _ h7).1 (ih _ _ h9).1 (ih _ _ h11).1
theorem snd_subs (S : FS W C) {v i : Expr} {p : Pos} {c : CE} (h : cSub (cE C.sc C.nm fn k) v i = some c) : SndE W C n Φ (.Subscript v i p) c ∧ SndT W C n Φ (.Subscript v i p) c := by
  unfold cSub at h
  split at h
  · obtain ⟨q, h1, h2⟩ := bind_inv h
    obtain ⟨hn, h3⟩ := ite_inv h2
    obtain ⟨a, h4, h5⟩ := bind_inv h3
    obtain ⟨b, h6, h7⟩ := bind_inv h5
    obtain ⟨b', h8, rfl⟩ := map_inv h7
    obtain ⟨p', rfl⟩ := slice3_inv h1
    exact ⟨snd_slice S hn (ih _ _ h4).1 (ih _ _ h6).1 (ih _ _ h8).1, sndT_none fun _ => rfl⟩
  · rename_i hs
    obtain ⟨a, h1, h2⟩ := bind_inv h
    obtain ⟨b, h3, rfl⟩ := map_inv h2
    exact ⟨snd_sub S (Bool.eq_false_iff.mpr hs) (ih _ _ h1).1 (ih _ _ h3).1, sndT_none fun _ => rfl⟩
theorem snd_meth (S : FS W C) {o : Expr} {m : Str} {as : List Expr} {p ap : Pos} {c : CE} (hb : isBase o = true) (hl : (ap.endLine == p.line) = true) (h : cMeth (cE C.sc C.nm fn k) o m as = some c) :
    SndE W C n Φ (.Call (.Attribute o m ap) as [] p) c ∧ SndT W C n Φ (.Call (.Attribute o m ap) as [] p) c := by
  cases as with
  | nil =>
    have h : (if m == Str.ofString "lower" then (cE C.sc C.nm fn k o).map CE.lower else none) = some c := h
    obtain ⟨hm, h1⟩ := ite_inv h
    obtain rfl := eq_of_beq hm
    obtain ⟨a, h2, rfl⟩ := map_inv h1
    exact ⟨snd_lower S hb hl (ih _ _ h2).1, sndT_none fun _ => rfl⟩
  | cons b r =>
    obtain ⟨b', h1, h2⟩ := bind_inv h
    obtain ⟨rfl, rfl⟩ := List.cons_eq_cons.mp (one_inv h1)
    split at h2
    · rename_i hm
      obtain rfl := eq_of_beq hm
      obtain ⟨x, h3, h4⟩ := bind_inv h2
      obtain ⟨y, h5, rfl⟩ := map_inv h4
      exact snd_starts S hb hl (cE_star h5) (ih _ _ h3).1 (ih _ _ h5).1
    · obtain ⟨hm, h2⟩ := ite_inv h2
      obtain rfl := eq_of_beq hm
      obtain ⟨x, h3, h4⟩ := bind_inv h2
      obtain ⟨y, h5, rfl⟩ := map_inv h4
      exact ⟨snd_meth1 (cc := .join x y) S hb hl (cE_star h5) PySem.F.slot_str_join PySem.F.type_str_join (fun A s u u' x y tv Q E => join_sound) (fun _ => rfl) (ih _ _ h3).1 (ih _ _ h5).1, sndT_none fun _ => rfl⟩
theorem snd_app (S : FS W C) (O : WOK W) (H : Calls W fn n Φ) {g : Expr} {as : List Expr} {ks : List Keyword} {p : Pos} {c : CE} (h : cApp C.sc fn (cE C.sc C.nm fn k) g as ks p = some c) : SndE W C n Φ (.Call g as ks p) c ∧ SndT W C n Φ (.Call g as ks p) c := by
  obtain ⟨hk, h0⟩ := ite_inv h
  obtain rfl := List.isEmpty_iff.mp hk
  rcases or_inv h0 with ⟨q, h1, h2⟩ | h1
  · obtain ⟨hb, h3⟩ := ite_inv h2
    have hb := bool_and hb
    rw [attr_inv h1]
    exact snd_meth ih S hb.1 hb.2 h3
  · obtain ⟨x, h2, h3⟩ := bind_inv h1
    obtain ⟨q, rfl⟩ := idOf_inv h2
    obtain ⟨hx, h4⟩ := ite_inv h3
    have hx := bool_and hx
    have hg := eq_of_beq hx.1
    have hd := bne_of hx.2
    rcases or_inv h4 with ⟨i, hf, h5⟩ | h5
    · obtain ⟨cs, h6, rfl⟩ := map_inv h5
      exact snd_call S O H (fun e c h => (ih e c h).1) hg hd hf h6
    · rcases or_inv h5 with ⟨a, h6, h7⟩ | h6
      · obtain ⟨x, h8, h9⟩ := bind_inv h7
        obtain rfl := one_inv h6
        exact snd_blt1 S O hd hg (ih _ _ h8).1 (cE_star h8) h9
      · obtain ⟨q, h7, h8⟩ := bind_inv h6
        obtain ⟨x, h9, h10⟩ := bind_inv h8
        obtain ⟨y, h11, h12⟩ := bind_inv h10
        obtain rfl := two_inv h7
        exact snd_blt2 S O hd hg (ih _ _ h9).1 (ih _ _ h11).1 (cE_star h9) (cE_star h11) h12
end

theorem snd_all (S : FS W C) (O : WOK W) (H : Calls W fn n Φ) : ∀ (k : Nat) (e : Expr) (c : CE), cE C.sc C.nm fn k e = some c → SndE W C n Φ e c ∧ SndT W C n Φ e c := by
  intro k
  induction k with
  | zero => intro e c h; cases h
  | succ k ih =>
    have ihE : ∀ e c, cE C.sc C.nm fn k e = some c → SndE W C n Φ e c := fun e c h => (ih e c h).1
    intro e c h
    unfold cE at h
    split at h
    · exact snd_const S h
    · obtain ⟨hd, h⟩ := eti_inv h
      obtain ⟨i, hi, rfl⟩ := map_inv h
      exact snd_var S (idx_get hi) (by simpa using hd)
    · obtain ⟨a, h1, h⟩ := bind_inv h
      obtain ⟨b, h2, rfl⟩ := map_inv h
      exact ⟨snd_bin S (ihE _ _ h1) (ihE _ _ h2), sndT_none fun _ => rfl⟩
    · obtain ⟨a, h1, h⟩ := bind_inv h
      exact snd_un S (ih _ _ h1) h
    · rename_i op vs p
      obtain ⟨cs, h1, rfl⟩ := map_inv h
      cases op
      · exact snd_bool (isAnd := true) S ih h1
      · exact snd_bool (isAnd := false) S ih h1
    · exact snd_cmps ih S h
    · obtain ⟨a, h1, h⟩ := bind_inv h
      obtain ⟨b, h2, h⟩ := bind_inv h
      obtain ⟨b', h3, rfl⟩ := map_inv h
      exact snd_ife S (ih _ _ h1).2 (ih _ _ h2) (ih _ _ h3)
    · obtain ⟨cs, h1, rfl⟩ := map_inv h
      exact ⟨snd_tup S ihE h1, sndT_none fun _ => rfl⟩
    · obtain ⟨cs, h1, rfl⟩ := map_inv h
      exact ⟨snd_lst S ihE h1, sndT_none fun _ => rfl⟩
    · exact snd_subs ih S h
    · obtain ⟨hl, h⟩ := eti_inv h
      obtain ⟨cs, h1, rfl⟩ := map_inv h
      exact ⟨snd_fstr S ihE h1 hl, sndT_none fun _ => rfl⟩
    · exact snd_app ih S O H h
    · cases h
end
end NP
end
section
open PySem PySem.Calls PyProof.Rows PySem.W PySem.Spec
set_option maxRecDepth 100000
namespace NP


noncomputable def Kept (fr : List Addr) (hb h h' : Heap) : Prop := ∀ b o, hb.get? b ≠ none → h.get? b = some o → (b ∉ fr → h'.get? b = some o) ∧ ∃ sl, h'.get? b = some { o with slots := sl }
theorem Kept.refl (fr : List Addr) (hb h : Heap) : Kept fr hb h h := fun _ o _ e => ⟨fun _ => e, o.slots, e⟩
theorem Kept.trans {fr : List Addr} {hb h₁ h₂ h₃ : Heap} (x : Kept fr hb h₁ h₂) (y : Kept fr hb h₂ h₃) : Kept fr hb h₁ h₃ := fun b o n e => by
  obtain ⟨a1, sl, a2⟩ := x b o n e
  refine ⟨fun m => (y b o n (a1 m)).1 m, ?_⟩
  obtain ⟨_, sl', b2⟩ := y b _ n a2
  exact ⟨sl', b2⟩
noncomputable def Under (hb h : Heap) : Prop := ∀ b, h.get? b = none → hb.get? b = none
theorem Kept.under {fr : List Addr} {hb h h' : Heap} (k : Kept fr hb h h') (u : Under hb h) : Under hb h' := fun b e => by
  cases q : hb.get? b with
  | none => rfl
  | some o =>
    cases q' : h.get? b with
    | none => rw [u b q'] at q; cases q
    | some o' => obtain ⟨_, sl, r⟩ := k b o' (by rw [q]; exact fun x => nomatch x) q'; rw [e] at r; cases r
theorem Grow.kept {fr : List Addr} {hb h h' : Heap} (g : Grow fr h h') : Kept fr hb h h' := fun b o _ e => g b o e

noncomputable def XT (CR : Addr) (hb : Heap) (fl : Value) (h : Heap) (e : Addr) (t : Str) (ec : PyData) : Prop :=
  ∃ T oT ts, XObj CR hb h e t ec (.ref T) ∧ T ≠ e ∧ hb.get? T = none ∧ h.get? T = some oT ∧ oT.data = .fields ts ∧ ts[3]? = some fl
theorem XT.xs {CR L : Addr} {hb h : Heap} {fl : Value} {e : Addr} {t : Str} {ec : PyData} (x : XT CR hb fl h e t ec) (hf : fl = .none ∨ fl = rawInt L) : XS CR L hb h e t ec :=
  let ⟨T, oT, ts, a, b, c, d, f, g⟩ := x; .inr ⟨T, fl, oT, ts, a, b, c, d, f, g, hf⟩

theorem ns1_up {h h' : Heap} {a : Addr} {m : Str → Option Value} (x : ∀ o, h.get? a = some o → ∃ sl, h'.get? a = some { o with slots := sl }) (n : h.Ns1 a m) : h'.Ns1 a m := by
  obtain ⟨o, es, ep, ho, hd, r⟩ := n
  obtain ⟨sl, e⟩ := x o ho
  exact ⟨_, es, ep, e, hd, r⟩
theorem ns1_data {h : Heap} {a : Addr} {m : Str → Option Value} (n : h.Ns1 a m) {o : Obj} (e : h.get? a = some o) {vs : Array Value} : o.data ≠ .fields vs := fun q => by
  obtain ⟨o', es, ep, ho, hd, r⟩ := n
  rw [e] at ho; injection ho with ho; subst ho; rw [q] at hd; cases hd
theorem XObj.move {CR : Addr} {hb h h' : Heap} {e T : Addr} {t : Str} {ec : PyData} {tb tb' : Value} (x : XObj CR hb h e t ec tb)
    (k : ∀ b o, b ≠ e → b ≠ T → h.get? b = some o → ∃ sl, h'.get? b = some { o with slots := sl })
    (hT : ∀ oT, h.get? T = some oT → ∃ ts, oT.data = .fields ts)
    (he : ∀ D vs sl, h.get? e = some ⟨.ref CR, some D, .fields vs, sl⟩ → vs[1]? = some tb → ∃ vs' sl', h'.get? e = some ⟨.ref CR, some D, .fields vs', sl'⟩ ∧ vs'[1]? = some tb') : XObj CR hb h' e t ec tb' := by
  obtain ⟨D, m, vs, sl, ecv, tk1, tk2, as, a1, a2, a3, a4, a5, a6, a7, a8, a9, a10⟩ := x
  obtain ⟨vs', sl', b1, b2⟩ := he D vs sl a1 a2
  refine ⟨D, m, vs', sl', ecv, tk1, tk2, as, b1, b2, a3, a4, ns1_up (fun o ho => k D o (fun q => ?_) (fun q => ?_) ho) a5, a6, a7, a8, a9, reads_tup (fun b o ho hc hd => ?_) a10 a9⟩
  · rw [q, a1] at ho; injection ho with ho; subst ho; exact ns1_data a5 (by rw [q]; exact a1) rfl
  · obtain ⟨ts, z⟩ := hT _ (q ▸ ho); exact ns1_data a5 ho z
  obtain ⟨q, m, hd⟩ := hd
  refine k b o (fun r => ?_) (fun r => ?_) ho
  · rw [r, a1] at ho; injection ho with ho; subst ho; cases hd
  · obtain ⟨ts, z⟩ := hT _ (r ▸ ho); rw [hd] at z; cases z

section
variable {M : Model} {A : Around} {E : Value → Shared → Prop} {s : Shared}

theorem entry_core {base : Heap} {env : Env} {outer : List Env} {L e : Addr} {oe : Obj} {vs : Array Value} {head : Value} {hadNext : Bool} {Q : Unit → Shared → Prop}
    (hfr : A.frames = some (env :: outer)) (hl : s.heap.FunFrames base (env :: outer)) (hf : env.frame = some L)
    (he : s.heap.get? e = some oe) (hd : oe.data = .fields vs) (hsz : 1 < vs.size)
    (h : ∀ h' T, h'.get? e = some (oe.mapFields (·.setIfInBounds 1 (.ref T))) → s.heap.get? T = none → T ≠ e → (∃ oT ts, h'.get? T = some oT ∧ oT.data = .fields ts ∧ ts[3]? = some (rawInt L)) →
      (∀ b o, b ≠ e → s.heap.get? b = some o → (b ∉ frs (env :: outer) → h'.get? b = some o) ∧ ∃ sl, h'.get? b = some { o with slots := sl }) → Q () { s with heap := h' }) :
    wpAny M A (do let a ← frameOf env; let pl ← entryPlaceOf L hadNext; let b ← EntryCells.newEntry head a .none (rawInt L) .none pl; setField (.ref e) 1 b) Q E s := by
  have hene : e ∉ (env :: outer).filterMap (·.frame) := fun hm => by
    obtain ⟨_, o, ho, hnf⟩ := hl.mem hm
    rw [he] at ho; injection ho with ho; subst ho; exact hnf vs hd
  refine wpAny_bind (wpAny_frameOf_fun hfr hl hf fun h₁ hs₁ => ?_)
  refine wpAny_bind (wpAny_entryPlaceOf fun pl hpl => ?_)
  unfold EntryCells.newEntry newFields
  refine wpAny_bind (wpAny_newObj_type ?_ (hpl.sizeOk5 _ _ _ _ _))
  have he₁ : h₁.get? e = some oe := (hs₁.2.1 e hene).trans he
  have he₂ := Heap.get?_push_of_some (h := h₁) { cls := .type "traceback", dict := none, data := .fields ([head, .ref L, .none, rawInt L, .none] ++ (if pl.isEmpty then List.replicate 6 Value.none else pl)).toArray } he₁
  have hTe : h₁.objs.size ≠ e := Nat.ne_of_gt (Heap.lt_size he₁)
  have hd₃ := Obj.data_mapFields hd (·.setIfInBounds 1 (Value.ref h₁.objs.size))
  have hT₃ := (Heap.get?_update_other (h₁.push { cls := .type "traceback", dict := none, data := .fields ([head, .ref L, .none, rawInt L, .none] ++ (if pl.isEmpty then List.replicate 6 Value.none else pl)).toArray })
    (Obj.mapFields (·.setIfInBounds 1 (Value.ref h₁.objs.size))) (Ne.symm hTe)).trans (Heap.get?_push_size h₁ rfl)
  refine wpAny_setField he₂ hd hsz (h _ h₁.objs.size (Heap.get?_update_self _ he₂ (Obj.isFreed_of_fields hd₃)) (Heap.get?_none_of_le (by rw [hs₁.1]; exact Nat.le_refl _)) hTe ⟨_, _, hT₃, rfl, ?_⟩ ?_)
  · first | (simp; done) | (rcases hpl with rfl | ⟨_, _, _, _, _, _, _, rfl⟩ <;> simp)
  · intro b o hbe hb
    have up : ∀ o, h₁.get? b = some o → ((h₁.push { cls := .type "traceback", dict := none, data := .fields ([head, .ref L, .none, rawInt L, .none] ++ (if pl.isEmpty then List.replicate 6 Value.none else pl)).toArray }).update e
        (Obj.mapFields (·.setIfInBounds 1 (Value.ref h₁.objs.size)))).get? b = some o := fun o ho => by
      rw [Heap.get?_update_other _ _ (Ne.symm hbe)]
      exact Heap.get?_push_of_some _ ho
    obtain ⟨sl, hsl⟩ := hs₁.2.2 b o hb
    exact ⟨fun hn => up o ((hs₁.2.1 b hn).trans hb), sl, up _ hsl⟩

variable {CR L : Addr} {hb : Heap} {e : Addr} {t : Str} {ec : PyData}
theorem XObj.at {h : Heap} {tb : Value} (x : XObj CR hb h e t ec tb) : ∃ D vs sl, h.get? e = some ⟨.ref CR, some D, .fields vs, sl⟩ ∧ vs[1]? = some tb ∧ hb.get? e = none := by
  obtain ⟨D, m, vs, sl, ecv, tk1, tk2, as, a1, a2, a3, _⟩ := x
  exact ⟨D, vs, sl, a1, a2, a3⟩

theorem set_x {fl : Value} {f : Option Addr} {fr : List Addr} {Q : Unit → Shared → Prop} (x : XT CR hb fl s.heap e t ec)
    (h : ∀ h', Kept fr hb s.heap h' → XT CR hb (f.elim .none fun f => rawInt f) h' e t ec → Q () { s with heap := h' }) : wpAny M A (setFlight (.ref e) f) Q E s := by
  obtain ⟨T, oT, ts, x, hTe, hnT, hT, hdT, h3⟩ := x
  obtain ⟨D, vs, sl, he, h1, hne⟩ := x.at
  have hsz3 : 3 < ts.size := (Array.getElem?_eq_some_iff.mp h3).1
  have other : ∀ b, b ≠ T → (s.heap.update T (Obj.mapFields (·.setIfInBounds 3 (f.elim Value.none fun f => rawInt f)))).get? b = s.heap.get? b :=
    fun b hb => Heap.get?_update_other _ _ (Ne.symm hb)
  unfold setFlight
  refine wpAny_bind (wpAny_field he rfl h1 ?_)
  rw [if_pos (show (Value.ref T != Value.none) = true from by simp)]
  refine wpAny_setField hT hdT hsz3 (h _ (fun b o n ho => ?_) ⟨T, _, _, x.move (T := T) (fun b o _ hbT ho => ⟨o.slots, (other b hbT).trans ho⟩) (fun oT' ho => ?_) (fun D' vs' sl' e1 e2 => ⟨vs', sl', (other e (Ne.symm hTe)).trans e1, e2⟩), hTe, hnT,
    Heap.get?_update_self _ hT (Obj.isFreed_of_fields (Obj.data_mapFields hdT _)), Obj.data_mapFields hdT _, by simp [hsz3]⟩)
  · have nb : b ≠ T := fun q => n (q ▸ hnT)
    exact ⟨fun _ => (other b nb).trans ho, o.slots, (other b nb).trans ho⟩
  · rw [hT] at ho; injection ho with ho; subst ho; exact ⟨ts, hdT⟩

theorem note_new {base : Heap} {env : Env} {outer : List Env} {tb head : Value} {hadNext : Bool} {Q : Unit → Shared → Prop} (hfr : A.frames = some (env :: outer)) (hl : s.heap.FunFrames base (env :: outer)) (hf : env.frame = some L)
    (hF : ∀ b ∈ frs (env :: outer), hb.get? b ≠ none) (hu : Under hb s.heap) (x : XObj CR hb s.heap e t ec tb)
    (h : ∀ h', Kept (frs (env :: outer)) hb s.heap h' → XT CR hb (rawInt L) h' e t ec → Q () { s with heap := h' }) :
    wpAny M A (do let a ← frameOf env; let pl ← entryPlaceOf L hadNext; let b ← EntryCells.newEntry head a .none (rawInt L) .none pl; setField (.ref e) 1 b) Q E s := by
  obtain ⟨D, vs, sl, he, h1, hne⟩ := x.at
  have hsz := (Array.getElem?_eq_some_iff.mp h1).1
  refine entry_core hfr hl hf he rfl hsz fun h' T k1 k2 k3 ⟨oT, ts, k4, k5, k6⟩ k7 => h h' (fun b o n ho => k7 b o (fun q => n (q ▸ hne)) ho) ⟨T, oT, ts, ?_, k3, hu T k2, k4, k5, k6⟩
  refine x.move (T := T) (fun b o hbe _ ho => (k7 b o hbe ho).2) (fun oT' ho => by rw [k2] at ho; cases ho) fun D' vs' sl' e1 e2 => ?_
  rw [he] at e1
  injection e1 with e1
  injection e1 with _ e1 e3 e4
  injection e1 with e1
  injection e3 with e3
  subst e1 e3 e4
  exact ⟨_, _, k1, by simp [hsz]⟩

theorem note_x {base : Heap} {env : Env} {outer : List Env} {Q : Unit → Shared → Prop} (hfr : A.frames = some (env :: outer)) (hl : s.heap.FunFrames base (env :: outer)) (hf : env.frame = some L)
    (hF : ∀ b ∈ frs (env :: outer), hb.get? b ≠ none) (hu : Under hb s.heap) (x : XS CR L hb s.heap e t ec)
    (h : ∀ h', Kept (frs (env :: outer)) hb s.heap h' → XT CR hb (rawInt L) h' e t ec → Q () { s with heap := h' }) : wpAny M A (noteFrame (.ref e) env) Q E s := by
  unfold noteFrame
  simp only [hf]
  rcases x with x | ⟨T, fl, oT, ts, x, hTe, hnT, hT, hdT, h3, hfl⟩
  · obtain ⟨D, vs, sl, he, h1, hne⟩ := x.at
    refine wpAny_bind (wpAny_field he rfl h1 ?_)
    rw [if_neg (by decide)]
    exact note_new hfr hl hf hF hu x h
  · obtain ⟨D, vs, sl, he, h1, hne⟩ := x.at
    refine wpAny_bind (wpAny_field he rfl h1 ?_)
    rw [if_pos (show (Value.ref T != Value.none) = true from by simp)]
    refine wpAny_bind (wpAny_field hT hdT h3 ?_)
    rcases hfl with rfl | rfl
    · rw [if_neg (show ¬ ((Value.none == rawInt L) = true) from by simp [rawInt])]
      refine wpAny_bind (wpAny_setField hT hdT (Array.getElem?_eq_some_iff.mp h3).1 ?_)
      have other : ∀ b, b ≠ T → (s.heap.update T (Obj.mapFields (·.setIfInBounds 3 Value.none))).get? b = s.heap.get? b := fun b hb => Heap.get?_update_other _ _ (Ne.symm hb)
      have noRecord : ∀ b o, s.heap.get? b = some o → (∀ vs, o.data ≠ .fields vs) → b ≠ T := fun b o hb hnf q => by
        rw [q, hT] at hb; injection hb with hb; subst hb; exact hnf ts hdT
      have kk : Kept (frs (env :: outer)) hb s.heap (s.heap.update T (Obj.mapFields (·.setIfInBounds 3 Value.none))) := fun b o n ho => by
        have nb : b ≠ T := fun q => n (q ▸ hnT)
        exact ⟨fun _ => (other b nb).trans ho, o.slots, (other b nb).trans ho⟩
      refine note_new (s := { s with heap := s.heap.update T (Obj.mapFields (·.setIfInBounds 3 Value.none)) }) (tb := .ref T) hfr (hl.of_keeps fun b o hb hnf => ⟨o, (other b (noRecord b o hb hnf)).trans hb, rfl⟩) hf hF (kk.under hu)
        (x.move (T := T) (fun b o _ hbT ho => ⟨o.slots, (other b hbT).trans ho⟩) (fun oT' ho => ?_) (fun D' vs' sl' e1 e2 => ⟨vs', sl', (other e (Ne.symm hTe)).trans e1, e2⟩)) fun h' k y => h h' (kk.trans k) y
      rw [hT] at ho; injection ho with ho; subst ho; exact ⟨ts, hdT⟩
    · rw [if_pos (show (rawInt L == rawInt L) = true from by first | (simp; done) | exact beq_self_eq_true _)]
      exact wpAny_pure (h s.heap (Kept.refl _ _ _) ⟨T, oT, ts, x, hTe, hnT, hT, hdT, h3⟩)
end

structure XE (W : Wd) (C : Fm) (h : Heap) (e : Addr) (t : Str) (ec : PyData) : Prop where
  grow : Grow (frs C.envs) C.h₀ h
  ns : ∃ m, h.Ns C.L m
  st : ∃ hb, (∀ b, hb.get? b = none → C.h₀.get? b = none ∧ b ≠ C.L) ∧ Under hb h ∧ XS W.CR C.L hb h e t ec

section
variable {W : Wd} {C : Fm} {s : Shared} {A : Around} {E : Value → Shared → Prop} {e : Addr} {t : Str} {ec : PyData}
theorem hF_of (S : FS W C) {hb : Heap} (k : ∀ b, hb.get? b = none → C.h₀.get? b = none ∧ b ≠ C.L) : ∀ b ∈ frs (C.env :: C.envs), hb.get? b ≠ none := fun b hm q => by
  obtain ⟨q1, q2⟩ := k b q
  rcases List.mem_cons.mp (show b ∈ C.L :: NP.frs C.envs from hm) with r | r
  · exact q2 r
  · obtain ⟨o, ho, _⟩ := frs_there S.frames b r
    rw [q1] at ho; cases ho
theorem Kept.xe_grow {S : FS W C} {hb h h' : Heap} (x : Kept C.fr hb h h') (g : Grow (frs C.envs) C.h₀ h) (k : ∀ b, hb.get? b = none → C.h₀.get? b = none ∧ b ≠ C.L) : Grow (frs C.envs) C.h₀ h' := fun b o ho => by
  have nb : hb.get? b ≠ none := fun q => by rw [(k b q).1] at ho; cases ho
  have nL : b ≠ C.L := fun q => by rw [q, S.new] at ho; cases ho
  obtain ⟨g1, sl, g2⟩ := g b o ho
  refine ⟨fun m => (x b o nb (g1 m)).1 fun m' => ?_, ?_⟩
  · rcases List.mem_cons.mp (show b ∈ C.L :: NP.frs C.envs from m') with r | r
    · exact nL r
    · exact m r
  · obtain ⟨_, sl', q⟩ := x b _ nb g2
    exact ⟨sl', q⟩
theorem Kept.xe_ns {hb h h' : Heap} (x : Kept C.fr hb h h') (n : ∃ m, h.Ns C.L m) (k : ∀ b, hb.get? b = none → C.h₀.get? b = none ∧ b ≠ C.L) : ∃ m, h'.Ns C.L m := by
  obtain ⟨m, n⟩ := n
  refine ⟨m, ns_up (fun o ho => (x C.L o (fun q => (k _ q).2 rfl) ho).2) n⟩

theorem xe_note (S : FS W C) (hA : A.frames = some (C.env :: C.envs)) {Q : Unit → Shared → Prop} (x : XE W C s.heap e t ec) (h : ∀ h', XE W C h' e t ec → (∃ hb, (∀ b, hb.get? b = none → C.h₀.get? b = none ∧ b ≠ C.L) ∧ Under hb h' ∧ XT W.CR hb (rawInt C.L) h' e t ec) → Q () { s with heap := h' }) :
    wpAny (model W.prog W.w) A (noteFrame (.ref e) C.env) Q E s := by
  obtain ⟨g, n, hb, k, u, y⟩ := x
  obtain ⟨m, n'⟩ := n
  refine note_x (base := W.B0) hA (S.frames' g n') rfl (hF_of S k) u y fun h' kk z => h h' ⟨Kept.xe_grow (S := S) kk g k, Kept.xe_ns kk ⟨m, n'⟩ k, hb, k, kk.under u, z.xs (.inr rfl)⟩ ⟨hb, k, kk.under u, z⟩
theorem xe_set (S : FS W C) {fl : Value} {f : Option Addr} {Q : Unit → Shared → Prop} (x : XE W C s.heap e t ec) (y : ∃ hb, (∀ b, hb.get? b = none → C.h₀.get? b = none ∧ b ≠ C.L) ∧ Under hb s.heap ∧ XT W.CR hb fl s.heap e t ec) (hf : (f.elim .none fun f => rawInt f) = Value.none ∨ (f.elim .none fun f => rawInt f) = rawInt C.L)
    (h : ∀ h', XE W C h' e t ec → (∃ hb, (∀ b, hb.get? b = none → C.h₀.get? b = none ∧ b ≠ C.L) ∧ Under hb h' ∧ XT W.CR hb (f.elim .none fun f => rawInt f) h' e t ec) → Q () { s with heap := h' }) :
    wpAny (model W.prog W.w) A (setFlight (.ref e) f) Q E s := by
  obtain ⟨hb, k, u, y⟩ := y
  refine set_x (fr := C.fr) y fun h' kk z => h h' ⟨Kept.xe_grow (S := S) kk x.grow k, Kept.xe_ns kk x.ns k, hb, k, kk.under u, z.xs hf⟩ ⟨hb, k, kk.under u, z⟩
theorem xe_back (S : FS W C) (h : ∀ h', XE W C h' e t ec → E (.ref e) { s with heap := h' }) (x : XE W C s.heap e t ec) (y : ∃ hb, (∀ b, hb.get? b = none → C.h₀.get? b = none ∧ b ≠ C.L) ∧ Under hb s.heap ∧ XT W.CR hb (rawInt C.L) s.heap e t ec) :
      cameBackBy (model W.prog W.w) A C.env E (.ref e) s := by
  obtain ⟨hb, k, u, T, oT, ts, z, r⟩ := id y
  obtain ⟨D, vs, sl, he, h1, hne⟩ := z.at
  refine wpAny_bind (wpAny_field he rfl h1 ?_)
  rw [if_neg (show ¬ ((Value.ref T == Value.none) = true) from Bool.false_ne_true)]
  exact xe_set S (f := some C.L) x y (.inr rfl) fun h' x' _ => h h' x'
theorem xe_loop (S : FS W C) (hA : A.frames = some (C.env :: C.envs)) (x : XE W C s.heap e t ec) (h : ∀ h', XE W C h' e t ec → E (.ref e) { s with heap := h' }) :
    notedBy (model W.prog W.w) A C.env (fun x s' => cameBackBy (model W.prog W.w) A C.env E x s') (.ref e) s :=
  xe_note S hA x fun h' x' y => xe_back (s := { s with heap := h' }) S (fun h'' x'' => h h'' x'') x' y
end
theorem xe_of {W : Wd} {C : Fm} {h h' : Heap} {σ : Store} {e : Addr} {t : Str} {ec : PyData} (S : FS W C) (I : FI C h σ) (g : Grow C.fr h h') (x : XS W.CR C.L h h' e t ec) : XE W C h' e t ec := by
  obtain ⟨m, n, _⟩ := I.ns
  refine ⟨I.grow.drop g S.new, ⟨m, g.ns n⟩, h, fun b q => ⟨I.old q, fun r => ?_⟩, fun b q => g.none q, x⟩
  obtain ⟨o, _, _, ho, _⟩ := n
  rw [← r, q] at ho; cases ho

end NP
end
section
open PySem PySem.Calls PyProof.Rows PySem.W PySem.Spec
set_option maxRecDepth 100000
namespace NP

structure XK (h h' : Heap) : Prop where
  recd : ∀ b o vs, h.get? b = some o → o.data = .fields vs → h'.get? b = some o
  tup : ∀ b o, h.get? b = some o → o.cls = .type "tuple" → (∃ x n, o.data = .seq x n) → ∃ sl, h'.get? b = some { o with slots := sl }
theorem XK.refl (h : Heap) : XK h h := ⟨fun _ _ _ e _ => e, fun _ o e _ _ => ⟨o.slots, e⟩⟩
theorem XK.trans {h₁ h₂ h₃ : Heap} (x : XK h₁ h₂) (y : XK h₂ h₃) : XK h₁ h₃ :=
  ⟨fun b o vs e d => y.recd b o vs (x.recd b o vs e d) d, fun b o e c d => let ⟨_, q⟩ := x.tup b o e c d; let ⟨sl, r⟩ := y.tup b _ q c d; ⟨sl, r⟩⟩
theorem XK.of_stays {h h' : Heap} (k : ∀ b o, h.get? b = some o → h'.get? b = some o) : XK h h' := ⟨fun b o _ e _ => k b o e, fun b o e _ _ => ⟨o.slots, k b o e⟩⟩
theorem XK.but {h h' : Heap} {a : Addr} (k : ∀ b o, b ≠ a → h.get? b = some o → h'.get? b = some o) (n : ∀ o, h.get? a = some o → (∀ vs, o.data ≠ .fields vs) ∧ (o.cls = .type "tuple" → ∀ x n, o.data ≠ .seq x n)) : XK h h' :=
  ⟨fun b o vs e d => k b o (fun q => (n o (q ▸ e)).1 vs d) e, fun b o e c ⟨x, m, d⟩ => ⟨o.slots, k b o (fun q => (n o (q ▸ e)).2 c x m d) e⟩⟩
theorem XK.young {h₀ h h' : Heap} {a : Addr} (x : XK h₀ h) (k : ∀ b o, b ≠ a → h.get? b = some o → h'.get? b = some o) (n : h₀.get? a = none) : XK h₀ h' :=
  ⟨fun b o vs e d => k b o (fun q => by rw [q, n] at e; cases e) (x.recd b o vs e d), fun b o e c d => let ⟨sl, q⟩ := x.tup b o e c d; ⟨sl, k b _ (fun r => by rw [r, n] at e; cases e) q⟩⟩

section
variable {W : Wd} {C : Fm} {h h' : Heap} {σ : Store}
theorem FI.xk (S : FS W C) (I : FI C h σ) (g : Grow C.fr h h') : XK h h' :=
  ⟨fun _ _ _ e d => Grow.rec (l := C.env :: C.envs) g (I.frames S) e d, fun b o e _ _ => g.up b o e⟩


theorem SR.seq {h₀ : Heap} {v : Value} {tv : TV} (k : ∀ b o, h.get? b = some o → (∃ x n, o.data = .seq x n) → ∃ sl, h'.get? b = some { o with slots := sl }) (x : SR h₀ h v tv) : SR h₀ h' v tv := by
  cases tv with
  | val d =>
    obtain ⟨ok, as, r⟩ := x
    refine ⟨ok, as, ?_⟩
    rcases ok with f | ⟨xs, rfl, f⟩
    · exact reads_tup (fun b o e _ d => k b o e d) r f
    · cases r with
      | list h1 h2 h3 h4 =>
        obtain ⟨sl, q⟩ := k _ _ h1 ⟨_, _, h3⟩
        exact .list q h2 h3 (readsAll_tup (fun b o e _ d => k b o e d) h4 f)
  | own xs =>
    obtain ⟨f, ⟨a, vs, as, e, ⟨o, n, p1, p2, p3, p4⟩, r⟩, z⟩ := x
    obtain ⟨sl, q⟩ := k a o p1 ⟨_, _, p4⟩
    exact ⟨f, ⟨a, vs, as, e, ⟨_, n, q, p2, p3, p4⟩, readsAll_tup (fun b o e _ d => k b o e d) r f⟩, z⟩
  | exc t ec => exact x
theorem SR.lst {h₀ : Heap} {v : Value} {tv : TV} {a : Addr} (k : ∀ b o, b ≠ a → h.get? b = some o → (∃ x n, o.data = .seq x n) → ∃ sl, h'.get? b = some { o with slots := sl })
    (ha : ∀ o, h.get? a = some o → o.cls ≠ .type "tuple") (hv : v ≠ .ref a) (x : SR h₀ h v tv) : SR h₀ h' v tv := by
  have kt : ∀ b o, h.get? b = some o → o.cls = .type "tuple" → (∃ x n, o.data = .seq x n) → ∃ sl, h'.get? b = some { o with slots := sl } := fun b o e c d => k b o (fun q => ha o (q ▸ e) c) e d
  cases tv with
  | val d =>
    obtain ⟨ok, as, r⟩ := x
    refine ⟨ok, as, ?_⟩
    rcases ok with f | ⟨xs, rfl, f⟩
    · exact reads_tup kt r f
    · cases r with
      | list h1 h2 h3 h4 =>
        obtain ⟨sl, q⟩ := k _ _ (fun q => hv (q ▸ rfl)) h1 ⟨_, _, h3⟩
        exact .list q h2 h3 (readsAll_tup kt h4 f)
  | own xs =>
    obtain ⟨f, ⟨b, vs, as, e, ⟨o, n, p1, p2, p3, p4⟩, r⟩, z⟩ := x
    obtain ⟨sl, q⟩ := k b o (fun q => hv (q ▸ e)) p1 ⟨_, _, p4⟩
    exact ⟨f, ⟨b, vs, as, e, ⟨_, n, q, p2, p3, p4⟩, readsAll_tup kt r f⟩, z⟩
  | exc t ec => exact x
noncomputable def isOwn : TV → Bool
  | .own _ => true
  | _ => false
theorem SR.there {h₀ : Heap} {a : Addr} {tv : TV} (x : SR h₀ h (.ref a) tv) : ∃ o, h.get? a = some o ∧ (∃ y n, o.data = .seq y n) ∧ (isOwn tv = true → o.cls = .type "list") := by
  cases tv with
  | val d =>
    obtain ⟨ok, as, r⟩ := x
    rcases ok with f | ⟨xs, rfl, f⟩
    · cases r with
      | list _ _ _ _ => simp [flat] at f
      | tuple h1 h2 h3 h4 => exact ⟨_, h1, ⟨_, _, h3⟩, fun q => nomatch q⟩
      | dict _ _ _ _ _ => simp [flat] at f
    · cases r with
      | list h1 h2 h3 h4 => exact ⟨_, h1, ⟨_, _, h3⟩, fun q => nomatch q⟩
  | own xs =>
    obtain ⟨f, ⟨b, vs, as, e, ⟨o, n, p1, p2, p3, p4⟩, r⟩, z⟩ := x
    cases e
    exact ⟨o, p1, ⟨_, _, p4⟩, fun _ => p2⟩
  | exc t ec => exact x.elim
theorem flat_tuple {a : Addr} {d : PyData} {as : List Addr} (r : Reads h (.ref a) d as) (f : flat d = true) : ∃ o, h.get? a = some o ∧ o.cls = .type "tuple" := by
  cases r with
  | list _ _ _ _ => simp [flat] at f
  | tuple h1 h2 h3 h4 => exact ⟨_, h1, h2⟩
  | dict _ _ _ _ _ => simp [flat] at f

theorem Loc.seq {m : Str → Option Value} (k : ∀ b o, h.get? b = some o → (∃ x n, o.data = .seq x n) → ∃ sl, h'.get? b = some { o with slots := sl }) (l : Loc C h m σ) : Loc C h' m σ :=
  ⟨fun i tv e => let ⟨x, v, a, b, c⟩ := l.has i tv e; ⟨x, v, a, b, c.seq k⟩, l.sep⟩

theorem FI.young {a : Addr} {vs : Array Value} {o : Obj} (I : FI C h σ) (k : ∀ b o, b ≠ a → h.get? b = some o → h'.get? b = some o) (n : C.h₀.get? a = none) (ha : h.get? a = some o) (hd : o.data = .fields vs) : FI C h' σ := by
  obtain ⟨g, m, ns, l⟩ := I
  refine ⟨g.but k n, m, ns_up (fun o' ho => ⟨o'.slots, k _ _ (fun q => ?_) ho⟩) ns, l.seq fun b o' e ⟨x, y, d⟩ => ⟨o'.slots, k b o' (fun q => ?_) e⟩⟩
  · obtain ⟨o2, es, ep, e1, e2, _⟩ := ns
    rw [q, ha] at e1; injection e1 with e1; subst e1; rw [hd] at e2; cases e2
  · rw [q, ha] at e; injection e with e; subst e; rw [hd] at d; cases d
theorem FI.more (I : FI C h σ) (k : ∀ b o, h.get? b = some o → h'.get? b = some o) : FI C h' σ := by
  obtain ⟨g, m, ns, l⟩ := I
  exact ⟨g.trans (.of_stays k), m, ns_up (fun o ho => ⟨o.slots, k _ _ ho⟩) ns, l.up fun b o e => ⟨o.slots, k b o e⟩⟩

theorem sget_sset {i j : Nat} {tv : TV} {tv' : TV} (h : sget (sset σ i tv) j = some tv') : (j = i ∧ tv' = tv) ∨ (j ≠ i ∧ sget σ j = some tv') := by
  unfold sget sset at *
  by_cases q : i = j
  · subst q
    rw [List.getElem?_set] at h
    simp only [if_true] at h
    split at h
    · simp at h; exact .inl ⟨rfl, h.symm⟩
    · simp at h
  · rw [List.getElem?_set_ne q] at h
    exact .inr ⟨fun r => q r.symm, h⟩
theorem nm_ne (S : FS W C) {i j : Nat} {x y : Str} (hx : C.nm[i]? = some x) (hy : C.nm[j]? = some y) (hne : j ≠ i) : y ≠ x := fun q => by
  subst q
  obtain ⟨a1, b1⟩ := List.getElem?_eq_some_iff.mp hx
  obtain ⟨a2, b2⟩ := List.getElem?_eq_some_iff.mp hy
  exact hne ((List.getElem_inj S.nodup).mp (b2.trans b1.symm))

theorem FI.store (S : FS W C) {m : Str → Option Value} {v : Value} {tv : TV} {i : Nat} {x : Str} (g : Grow (frs C.envs) C.h₀ h) (ns : h.Ns C.L m) (l : Loc C h m σ) (hi : C.nm[i]? = some x) (hv : SR C.h₀ h v tv)
    (hs : ∀ j tv' y a, j ≠ i → sget σ j = some tv' → C.nm[j]? = some y → m y = some (.ref a) → v = .ref a → isOwn tv = false ∧ isOwn tv' = false)
    (n' : h'.Ns C.L (fun y => if y = x then some v else m y)) (sb : Heap.SameBut C.L h h') : FI C h' (sset σ i tv) := by
  have nseq : ∀ o, h.get? C.L = some o → ∀ y n, o.data ≠ .seq y n := fun o e y n d => by
    obtain ⟨o2, es, ep, e1, e2, _⟩ := ns
    rw [e] at e1; injection e1 with e1; subst e1; rw [d] at e2; cases e2
  have ks : ∀ b o, h.get? b = some o → (∃ x n, o.data = .seq x n) → ∃ sl, h'.get? b = some { o with slots := sl } := fun b o e ⟨y, n, d⟩ =>
    ⟨o.slots, (sb.2 b fun q => nseq o (q ▸ e) y n d).trans e⟩
  refine ⟨g.but (fun b o nb e => (sb.2 b nb).trans e) S.new, _, n', fun j tv' e => ?_, fun j xs e y a hy hm j' y' tv' hne e' hy' hm' => ?_⟩
  · rcases sget_sset e with ⟨rfl, rfl⟩ | ⟨hne, e⟩
    · exact ⟨x, v, hi, by simp, hv.seq ks⟩
    · obtain ⟨y, w, a, b, c⟩ := l.has j tv' e
      exact ⟨y, w, a, by rw [if_neg (nm_ne S hi a hne)]; exact b, c.seq ks⟩
  · rcases sget_sset e with ⟨rfl, q⟩ | ⟨hne1, e1⟩
    · rcases sget_sset e' with ⟨r, _⟩ | ⟨hne2, e2⟩
      · exact hne r
      · rw [hi] at hy; cases hy
        simp only [if_true] at hm
        rw [if_neg (nm_ne S hi hy' hne)] at hm'
        have := (hs j' tv' y' a hne e2 hy' hm' (by injection hm)).1
        rw [← q] at this; cases this
    · rw [if_neg (nm_ne S hi hy hne1)] at hm
      rcases sget_sset e' with ⟨rfl, q⟩ | ⟨hne2, e2⟩
      · rw [hi] at hy'; cases hy'
        simp only [if_true] at hm'
        have := (hs j _ y a hne1 e1 hy hm (by injection hm')).2
        cases this
      · rw [if_neg (nm_ne S hi hy' hne2)] at hm'
        exact l.sep j xs e1 y a hy hm j' y' tv' hne e2 hy' hm'

theorem ns_xk {m : Str → Option Value} (ns : h.Ns C.L m) (sb : Heap.SameBut C.L h h') : XK h h' := by
  obtain ⟨o2, es, ep, e1, e2, _⟩ := ns
  refine .but (a := C.L) (fun b o nb e => (sb.2 b nb).trans e) fun o e => ?_
  rw [e1] at e; injection e with e; subst e
  exact ⟨fun vs d => (by rw [e2] at d; cases d), fun _ x n d => (by rw [e2] at d; cases d)⟩
end

section
variable {W : Wd} {C : Fm} {A : Around} {s : Shared} {σ : Store} {E : Value → Shared → Prop}

theorem env_noBlock (S : FS W C) : (C.env.scope.kind == .class || (C.env.scope.kind == .module && C.env.locals != C.env.globals)) = false := by
  have h : C.env.scope.kind = .function := S.kind
  rw [h]; rfl

theorem store_flat (S : FS W C) (I : FI C s.heap σ) {i : Nat} {x : Str} {v : Value} {d : PyData} {as : List Addr} {Q : Unit → Shared → Prop} (hi : C.nm[i]? = some x) (f : flat d = true) (r : Reads s.heap v d as)
    (h : ∀ h' tk, FI C h' (sset σ i (.val d)) → XK s.heap h' → Q () { s with heap := h', toks := tk }) : wpAny (model W.prog W.w) A (storeName C.env x v) Q E s := by
  obtain ⟨g, m, ns, l⟩ := I
  refine wpAny_storeName_local (S.loc x (List.mem_of_getElem? hi)) ns (fun h' n' sb => h h' _ (FI.store S g ns l hi ⟨.inl f, as, r⟩ (fun j tv' y a hne e hy hm hv => ⟨rfl, ?_⟩) n' sb) (ns_xk ns sb)) (env_noBlock S)
  subst hv
  obtain ⟨o, e1, e2⟩ := flat_tuple r f
  obtain ⟨y', v', a1, a2, a3⟩ := l.has j tv' e
  rw [hy] at a1; cases a1
  rw [hm] at a2; cases a2
  obtain ⟨o', b1, _, b2⟩ := a3.there
  cases q : isOwn tv' with
  | false => rfl
  | true => rw [e1] at b1; injection b1 with b1; subst b1; rw [b2 q] at e2; simp at e2
theorem store_own (S : FS W C) {h₁ : Heap} (I₁ : FI C h₁ σ) (gr : Grow C.fr h₁ s.heap) {i : Nat} {x : Str} {v : Value} {xs : List PyData} {Q : Unit → Shared → Prop} (hi : C.nm[i]? = some x) (r : TR W.CR h₁ s.heap v (.own xs))
    (h : ∀ h' tk, FI C h' (sset σ i (.own xs)) → XK s.heap h' → Q () { s with heap := h', toks := tk }) : wpAny (model W.prog W.w) A (storeName C.env x v) Q E s := by
  obtain ⟨f, la, b, rfl, hn⟩ := r
  obtain ⟨m₁, ns₁, l₁⟩ := I₁.ns
  have ns := gr.ns ns₁
  have l := l₁.up gr.up
  refine wpAny_storeName_local (S.loc x (List.mem_of_getElem? hi)) ns (fun h' n' sb => h h' _ (FI.store S (I₁.step S gr).grow ns l hi ⟨f, la, b, rfl, I₁.old hn⟩ (fun j tv' y a hne e hy hm hv => ?_) n' sb) (ns_xk ns sb)) (env_noBlock S)
  cases hv
  obtain ⟨y', v', a1, a2, a3⟩ := l₁.has j tv' e
  rw [hy] at a1; cases a1
  rw [hm] at a2; cases a2
  obtain ⟨o', b1, _⟩ := a3.there
  rw [hn] at b1; cases b1
end

end NP
end
section
open PySem PySem.Calls PyProof.Rows PySem.W PySem.Spec
set_option maxRecDepth 100000
namespace NP


noncomputable def intsFrom (x : Int) (n : Nat) : List PyData := (List.range n).map fun i => .int (x + (i : Nat))
noncomputable def signs (l : List Nat) : List PyData := l.map fun c => .str ⟨#[c]⟩
inductive ItSt (h : Heap) (I : Addr) : List PyData → Prop
  | tup {t : Addr} {i : Nat} {vs : List Value} {as : List Addr} {rest : List PyData} (a : h.IsTupleIter I t i) (b : h.IsTuple t vs.toArray) (c : ReadsAll h (vs.drop i) rest as) (d : flats rest = true) : ItSt h I rest
  | rng {x : Int} {n : Nat} (a : IsRangeIter h I x n 1) : ItSt h I (intsFrom x n)
  | str {ty : String} {x : Str} {t : Tok} {i : Nat} (a : h.IsStrIter I ty x t i) (b : ty = "str_ascii_iterator" ∨ ty = "str_iterator") : ItSt h I (signs (x.cps.toList.drop i))

theorem ItSt.there {h : Heap} {I : Addr} {r : List PyData} (x : ItSt h I r) : ∃ o vs n, h.get? I = some o ∧ o.data = .fields vs ∧ o.cls = .type n ∧ (["enumerate", "zip", "dict_itemiterator", "dict_reverseitemiterator", "odict_iterator", "itertools.zip_longest", "itertools.pairwise"].contains n) = false := by
  cases x with
  | tup a _ _ _ => obtain ⟨o, e, c, d⟩ := a; exact ⟨o, _, _, e, d, c, by decide⟩
  | rng a => exact ⟨_, _, _, a, rfl, rfl, by decide⟩
  | str a b =>
    obtain ⟨o, e, c, d⟩ := a
    rcases b with rfl | rfl
    · exact ⟨o, _, _, e, d, c, by decide⟩
    · exact ⟨o, _, _, e, d, c, by decide⟩
theorem readsAll_xk {h h' : Heap} (k : XK h h') {vs : List Value} {ds : List PyData} {as : List Addr} (r : ReadsAll h vs ds as) (f : flats ds = true) : ReadsAll h' vs ds as :=
  readsAll_tup (fun b o e c d => k.tup b o e c d) r f
theorem isTuple_xk {h h' : Heap} (k : XK h h') {t : Addr} {its : Array Value} (x : h.IsTuple t its) : h'.IsTuple t its := by
  obtain ⟨o, e, c, n, d⟩ := x
  obtain ⟨sl, q⟩ := k.tup t o e c ⟨_, _, d⟩
  exact ⟨_, q, c, n, d⟩
theorem ItSt.xk {h h' : Heap} {I : Addr} {r : List PyData} (k : XK h h') (x : ItSt h I r) : ItSt h' I r := by
  cases x with
  | tup a b c d =>
    obtain ⟨o, e, c', d'⟩ := a
    exact .tup ⟨o, k.recd _ _ _ e d', c', d'⟩ (isTuple_xk k b) (readsAll_xk k c d) d
  | rng a => exact .rng (k.recd _ _ _ a rfl)
  | str a b =>
    obtain ⟨o, e, c', d'⟩ := a
    exact .str ⟨o, k.recd _ _ _ e d', c', d'⟩ b

theorem intsFrom_cons {x : Int} {n : Nat} : intsFrom x (n + 1) = .int x :: intsFrom (x + 1) n := by
  unfold intsFrom
  rw [List.range_succ_eq_map, List.map_cons, List.map_map]
  congr 1
  · simp
  · apply List.map_congr_left
    intro i _
    show PyData.int (x + ((i + 1 : Nat) : Int)) = PyData.int (x + 1 + (i : Int))
    congr 1
    push_cast
    omega

section
variable {W : Wd} {C : Fm} {A : Around} {s : Shared} {σ : Store} {E : Value → Shared → Prop}

theorem it_item {I : Addr} {d : PyData} {r : List PyData} {Q : Option Value → Shared → Prop} (x : ItSt s.heap I (d :: r))
    (hQ : ∀ v h' tk as, flat d = true → Reads h' v d as → ItSt h' I r → (∀ b o, b ≠ I → s.heap.get? b = some o → h'.get? b = some o) → Q (some v) { s with heap := h', toks := tk }) :
    wpAny (model W.prog W.w) A (pyNext (.ref I)) Q E s := by
  generalize hds : d :: r = ds at x
  cases x with
  | tup a b c f =>
    rename_i t i vs as
    subst hds
    have hne : t ≠ I := fun q => by
      obtain ⟨o, e, _, n, dd⟩ := b
      obtain ⟨o', e', _, d'⟩ := a
      rw [q, e'] at e; injection e with e; subst e; rw [d'] at dd; cases dd
    cases hv : vs.drop i with
    | nil => rw [hv] at c; cases c
    | cons v vs' =>
      rw [hv] at c
      have f' := Bool.and_eq_true_iff.mp (show (flat d && flats r) = true from f)
      cases c with
      | cons c1 c2 =>
        have hi : vs[i]? = some v := by
          have h0 : (vs.drop i)[0]? = some v := by rw [hv]; rfl
          simpa [List.getElem?_drop] using h0
        have hr : vs.drop (i + 1) = vs' := by
          have : (vs.drop i).drop 1 = vs' := by rw [hv]; rfl
          rw [List.drop_drop] at this
          exact this
        refine wpAny_pyNext_tuple_item a b (x := v) (by simpa using hi) fun h' hit sb => ?_
        have kk : XK { objs := s.heap.objs } { objs := s.heap.objs } := XK.refl _
        have keep : ∀ b o, b ≠ I → s.heap.get? b = some o → h'.get? b = some o := fun b o nb e => sb.extBut b o nb e
        have nI : ∀ b o, s.heap.get? b = some o → o.cls = .type "tuple" → (∃ x n, o.data = .seq x n) → ∃ sl, h'.get? b = some { o with slots := sl } := fun b o e _ ⟨y, n, dd⟩ => by
          refine ⟨o.slots, keep b o (fun q => ?_) e⟩
          obtain ⟨o', e', _, d'⟩ := a
          rw [q, e'] at e; injection e with e; subst e; rw [d'] at dd; cases dd
        refine hQ v h' s.toks _ f'.1 (reads_tup nI c1 f'.1) (.tup hit (b.extBut sb.extBut hne) (i := i + 1) (by rw [hr]; exact readsAll_tup nI c2 f'.2) f'.2) keep
  | rng a =>
    rename_i x n
    cases n with
    | zero => cases hds
    | succ n =>
      rw [intsFrom_cons] at hds
      injection hds with h1 h2
      subst h1 h2
      refine wpAny_pyNext_range_item a (by omega) fun h' hit sb => hQ _ h' _ [] rfl (.int _ _) (.rng ?_) fun b o nb e => sb.extBut b o nb e
      have : ((n + 1 : Nat) : Int) - 1 = (n : Int) := by omega
      rw [this] at hit
      exact hit
  | str a b =>
    rename_i ty x t i
    have hi : ∃ c, x.cps[i]? = some c ∧ d = .str ⟨#[c]⟩ ∧ r = signs (x.cps.toList.drop (i + 1)) := by
      cases hv : x.cps.toList.drop i with
      | nil => rw [hv] at hds; cases hds
      | cons c l =>
        rw [hv] at hds
        injection hds with h1 h2
        refine ⟨c, ?_, h1, ?_⟩
        · have h0 : (x.cps.toList.drop i)[0]? = some c := by rw [hv]; rfl
          simpa [List.getElem?_drop] using h0
        · have : (x.cps.toList.drop i).drop 1 = l := by rw [hv]; rfl
          rw [List.drop_drop] at this
          rw [h2]
          show signs l = _
          rw [← this]
    obtain ⟨c, hc, rfl, rfl⟩ := hi
    rcases b with rfl | rfl
    · exact wpAny_pyNext_ascii_item a hc fun h' hit sb => hQ _ h' _ [] rfl (.str _ _) (.str hit (.inl rfl)) fun b o nb e => sb.extBut b o nb e
    · exact wpAny_pyNext_wide_item a hc fun h' hit sb => hQ _ h' _ [] rfl (.str _ _) (.str hit (.inr rfl)) fun b o nb e => sb.extBut b o nb e

theorem it_done {I : Addr} {Q : Option Value → Shared → Prop} (hh : A.handled = none) (x : ItSt s.heap I [])
    (hQ : ∀ h', (∀ b o, b ≠ I → s.heap.get? b = some o → h'.get? b = some o) → Q none { s with heap := h' }) :
    wpAny (model W.prog W.w) A (pyNext (.ref I)) Q E s := by
  generalize hds : ([] : List PyData) = ds at x
  cases x with
  | tup a b c f =>
    rename_i t i vs as
    subst hds
    have hv : vs.drop i = [] := by
      cases q : vs.drop i with
      | nil => rfl
      | cons v l => rw [q] at c; cases c
    have hi : vs[i]? = none := by
      rw [List.getElem?_eq_none_iff]
      exact List.drop_eq_nil_iff.mp hv
    exact wpAny_pyNext_tuple_end hh a b (by simpa using hi) hQ
  | rng a =>
    rename_i x n
    cases n with
    | zero => exact wpAny_pyNext_range_end hh a (by omega) hQ
    | succ n => rw [intsFrom_cons] at hds; cases hds
  | str a b =>
    rename_i ty x t i
    have hi : x.cps[i]? = none := by
      have hv : x.cps.toList.drop i = [] := by
        cases q : x.cps.toList.drop i with
        | nil => rfl
        | cons v l => rw [q] at hds; cases hds
      rw [Array.getElem?_eq_none_iff]
      have := List.drop_eq_nil_iff.mp hv
      simpa using this
    rcases b with rfl | rfl
    · exact wpAny_pyNext_ascii_end hh a hi hQ
    · exact wpAny_pyNext_wide_end hh a hi hQ

theorem owned_go {target : Expr} {I : Addr} {v : Value} {r : List PyData} {Q : Unit → Shared → Prop} (x : ItSt s.heap I r) (h : Q () s) : wpAny (model W.prog W.w) A (letOwnedTupleGo target (.ref I) v) Q E s := by
  obtain ⟨o, vs, n, e, d, c, hn⟩ := x.there
  have key : ∀ v, wpAny (model W.prog W.w) A (do
      let (.ref r, .ref a) := ((Value.ref I, v) : Value × Value) | return
      let o ← load r
      match o.cls, o.data with
      | .type n, .fields vs =>
        if ["enumerate", "zip", "dict_itemiterator", "dict_reverseitemiterator", "odict_iterator", "itertools.zip_longest", "itertools.pairwise"].contains n && vs[0]? == some (rawInt a) then
          rule "for.unpacks-the-owned-tuple"
          updateField r 0 .none
      | _, _ => pure ()) Q E s := fun v => by
    cases v <;> first | exact wpAny_pure h | skip
    refine wpAny_bind (wpAny_load e ?_)
    rw [c, d]
    dsimp only
    rw [hn, Bool.false_and]
    exact wpAny_pure h
  unfold letOwnedTupleGo
  split
  · exact key v
  · exact key v
  · exact wpAny_pure h

theorem SndE.iter {e : Expr} {c : CE} {n : Nat} {Φ : Nat → List TV → Option (Out TV)} (S : FS W C) (ih : SndE W C n Φ e c) (hA : A.frames = some (C.env :: C.envs)) (R : Rm n A) (I : FI C s.heap σ) {K : List PyData → Prop} {Q : Value → Shared → Prop}
    (p : PE W C s K E (evIt Φ (.val c) σ)) (k : ∀ xs J h' tk, K xs → Grow C.fr s.heap h' → s.heap.get? J = none → FI C h' σ → ItSt h' J xs → Q (.ref J) { s with heap := h', toks := tk }) :
    wpAny (model W.prog W.w) A (eval e C.env) (fun x s₁ => wpAny (model W.prog W.w) A (pyIter x) (fun it s₂ => Q it s₂) E s₁) E s := by
  refine ih.then S hA R I (PE.bind p) fun tv v h' tk q g y I1 => ?_
  have hn : s.heap.get? h'.objs.size = none := g.none (Heap.get?_none_of_le (Nat.le_refl _))
  have fin : ∀ o xs, K xs → ItSt (h'.push o) h'.objs.size xs → Q (.ref h'.objs.size) { s with heap := h'.push o, toks := tk } := fun o xs q st =>
    k xs _ _ _ q (g.trans (.of_stays (stays_push _ _))) hn (I1.more (stays_push _ _)) st
  split at q
  · rename_i xs
    obtain ⟨f, t, vs, as, rfl, ht, _, r⟩ := vrd_tuple y.vrd
    refine wpAny_pyIter_tuple ht (fin _ xs q (.tup (i := 0) ⟨_, Heap.get?_push_size _ rfl, rfl, rfl⟩ (ht.push _) (readsAll_up (fun b o e => ⟨o.slots, stays_push _ _ b o e⟩) r) f))
  · split at q
    · rename_i x hx
      obtain ⟨t, rfl⟩ := vrd_str y.vrd
      refine wpAny_pyIter_strU (fin _ _ q (.str (ty := strIterType x) (t := t) (i := 0) ⟨_, Heap.get?_push_size _ rfl, rfl, rfl⟩ ?_))
      unfold strIterType
      split
      · first | exact .inl rfl | exact .inr rfl
      · first | exact .inl rfl | exact .inr rfl
    · exact q.elim
  · exact q.elim

theorem range_size {k : Int} (h : k.natAbs ≤ 1000000) : Builtin.Range.small 0 k 1 = true ∧ Builtin.Range.rangeSize 0 k 1 = (k.toNat : Int) := by
  have hs : Builtin.Range.rangeSize 0 k 1 = (k.toNat : Int) := by
    unfold Builtin.Range.rangeSize
    simp only [show (1 : Int) > 0 from by decide, if_true, Int.ediv_one]
    split <;> omega
  refine ⟨?_, hs⟩
  unfold Builtin.Range.small
  rw [hs]
  unfold Builtin.Range.rangeFitsLong
  simp only [Bool.and_eq_true, Bool.or_eq_true, decide_eq_true_eq]
  refine ⟨⟨⟨⟨?_, ?_⟩, ?_⟩, ?_⟩, .inr ?_⟩ <;> first | (constructor <;> omega) | (simp only [show (1 : Int) > 0 from by decide, if_true, decide_eq_true_eq, Bool.and_eq_true]; constructor <;> omega)

theorem SndE.range {e : Expr} {c : CE} {n : Nat} {Φ : Nat → List TV → Option (Out TV)} (S : FS W C) (O : WOK W) (ih : SndE W C n Φ e c) (hs : isStarred e = false) (hx : C.sc.names.lookup (Str.ofString "range") = some .globalImplicit)
    (hA : A.frames = some (C.env :: C.envs)) (R : Rm n A) (I : FI C s.heap σ) {K : List PyData → Prop} {Q : Value → Shared → Prop} {q p' : Pos}
    (p : PE W C s K E (evIt Φ (.rng c) σ)) (k : ∀ xs J h' tk, K xs → Grow C.fr s.heap h' → s.heap.get? J = none → FI C h' σ → ItSt h' J xs → Q (.ref J) { s with heap := h', toks := tk }) :
    wpAny (model W.prog W.w) A (eval (.Call (.Name (Str.ofString "range") q) [e] [] p') C.env) (fun x s₁ => wpAny (model W.prog W.w) A (pyIter x) (fun it s₂ => Q it s₂) E s₁) E s := by
  refine call_named rfl (.inr ⟨"range", rfl⟩) (by intro e' he'; rcases List.mem_cons.mp he' with rfl | he'; exact hs; cases he') (fun Q' h' => name_builtin S O I hx (by simp) Boot.«range» (ne_name _ (by decide +kernel)) (by decide +kernel) h') ?_
  refine Calls.spliced_cons (ih.then S hA R I (PE.bind p) fun tv v h' tk q g y I1 => Calls.spliced_nil ?_)
  split at q
  · split at q
    · rename_i z hz
      obtain ⟨t, rfl⟩ := vrd_int y.vrd
      refine call_range_1 ?_
      refine wpAny_pyIter_range (Heap.get?_push_size _ rfl) (range_size hz).1 ?_
      rw [(range_size hz).2]
      have st2 : ∀ b o, h'.get? b = some o → ((h'.push { cls := .type "range", data := .fields #[.int 0 tk, .int z t, .int 1 (tk + 1)] }).push { cls := .type "range_iterator", data := .fields #[rawInt 0, rawInt (z.toNat : Int), rawInt 1] }).get? b = some o :=
        fun b o e => stays_push _ _ b o (stays_push _ _ b o e)
      refine k _ _ _ _ q (g.trans (.of_stays st2)) (g.none (Heap.get?_none_of_le (by simp [Heap.push]))) (I1.more st2) ?_
      have := ItSt.rng (h := (h'.push { cls := .type "range", data := .fields #[.int 0 tk, .int z t, .int 1 (tk + 1)] }).push { cls := .type "range_iterator", data := .fields #[rawInt 0, rawInt (z.toNat : Int), rawInt 1] }) (x := 0) (n := z.toNat) (Heap.get?_push_size _ rfl)
      have e2 : intsFrom 0 z.toNat = NP.range z := by
        unfold intsFrom NP.range
        apply List.map_congr_left
        intro i _
        simp
      rw [e2] at this
      exact this
    · exact q.elim
  · exact q.elim
end
end NP
end
section
open PySem PySem.Calls PyProof.Rows PySem.W PySem.Spec
set_option maxRecDepth 100000
namespace NP


section
variable (W : Wd) (C : Fm)
noncomputable def PS (s : Shared) (Kn : Store → Prop) (Q : Flow → Shared → Prop) (E : Value → Shared → Prop) : Option (Out (SO Store)) → Prop
  | some (.ok (.next σ')) => Kn σ'
  | some (.ok (.ret tv)) => ∀ v h' tk, Grow (frs C.envs) C.h₀ h' → TR W.CR C.h₀ h' v tv → Q (.ret v) { s with heap := h', toks := tk }
  | some (.exc t ec) => ∀ e h' tk, XE W C h' e t ec → E (.ref e) { s with heap := h', toks := tk }
  | none => False
noncomputable def KN (s : Shared) (Q : Flow → Shared → Prop) (σ' : Store) : Prop := ∀ h' tk, FI C h' σ' → XK s.heap h' → Q .next { s with heap := h', toks := tk }
end
noncomputable def sbind (x : Option (Out (SO Store))) (g : Store → Option (Out (SO Store))) : Option (Out (SO Store)) := match x with
  | some (.ok (.next σ')) => g σ'
  | x => x

section
variable (W : Wd) (C : Fm) (n : Nat) (Φ : Nat → List TV → Option (Out TV)) (N : Nat)
noncomputable def SndS (st : Stmt) (c : CS) : Prop :=
  ∀ A s σ Q E, A.frames = some (C.env :: C.envs) → Rm n A → FI C s.heap σ → PS W C s (KN C s Q) Q E (evS Φ N c σ) → wpAny (model W.prog W.w) A (exec st C.env) Q E s
noncomputable def SndSs (st : List Stmt) (c : List CS) : Prop :=
  ∀ A s σ Q E, A.frames = some (C.env :: C.envs) → Rm n A → FI C s.heap σ → PS W C s (KN C s Q) Q E (evSs Φ N c σ) → wpAny (model W.prog W.w) A (execs st C.env) Q E s
end

section
variable {W : Wd} {C : Fm} {n : Nat} {Φ : Nat → List TV → Option (Out TV)} {N : Nat} {s : Shared} {σ : Store} {E E' : Value → Shared → Prop} {Q Q' : Flow → Shared → Prop} {Kn Kn' : Store → Prop}

theorem PS.sbind {x : Option (Out (SO Store))} {g : Store → Option (Out (SO Store))} (p : PS W C s Kn Q E (NP.sbind x g)) : PS W C s (fun σ' => PS W C s Kn Q E (g σ')) Q E x := by
  cases x with
  | none => exact p
  | some o => cases o with
    | exc t ec => exact p
    | ok a => cases a <;> exact p
noncomputable def EStep (W : Wd) (C : Fm) (s : Shared) (E E' : Value → Shared → Prop) : Prop :=
  ∀ e h' tk t ec, XE W C h' e t ec → (∀ h'', XE W C h'' e t ec → E (.ref e) { s with heap := h'', toks := tk }) → E' (.ref e) { s with heap := h', toks := tk }
theorem EStep.refl (s : Shared) (E : Value → Shared → Prop) : EStep W C s E E := fun _ _ _ _ _ x k => k _ x
theorem PS.imp {h : Heap} {t : Nat} {r : Option (Out (SO Store))} (p : PS W C s Kn Q E r) (k : ∀ σ', Kn σ' → Kn' σ') (kr : ∀ v s', Q (.ret v) s' → Q' (.ret v) s') (ke : EStep W C s E E') :
    PS W C { s with heap := h, toks := t } Kn' Q' E' r := by
  cases r with
  | none => exact p
  | some o => cases o with
    | exc t ec => exact fun e h' tk x => ke e h' tk t ec x fun h'' x' => p e h'' tk x'
    | ok a => cases a with
      | next σ' => exact k σ' p
      | ret tv => exact fun v h' tk g y => kr v _ (p v h' tk g y)
theorem PS.move {h : Heap} {t : Nat} {r : Option (Out (SO Store))} (x : XK s.heap h) (p : PS W C s (KN C s Q) Q E r) : PS W C { s with heap := h, toks := t } (KN C { s with heap := h, toks := t } Q) Q E r :=
  p.imp (fun σ' k h' tk I y => k h' tk I (x.trans y)) (fun _ _ q => q) (EStep.refl _ _)
theorem PE.ofS {α : Type} {h : Heap} {t : Nat} {x : Option (Out α)} {f : α → Option (Out (SO Store))} (S : FS W C) (I : FI C h σ) (ke : EStep W C s E E') (p : PS W C s Kn Q E (ebind x f)) :
    PE W C { s with heap := h, toks := t } (fun a => PS W C s Kn Q E (f a)) E' x := by
  cases x with
  | none => exact p
  | some o => cases o with
    | ok a => exact p
    | exc t ec => exact fun e h' tk g y => ke e h' tk t ec (xe_of S I g y) fun h'' x => p e h'' tk x
theorem PE.ofS' {α : Type} {x : Option (Out α)} {f : α → Option (Out (SO Store))} (S : FS W C) (I : FI C s.heap σ) (p : PS W C s Kn Q E (ebind x f)) : PE W C s (fun a => PS W C s Kn Q E (f a)) E x :=
  PE.ofS (h := s.heap) (t := s.toks) S I (EStep.refl _ _) p

theorem evSs_cons {c : CS} {cs : List CS} {σ : Store} : evSs Φ N (c :: cs) σ = sbind (evS Φ N c σ) (evSs Φ N cs) := rfl
theorem loopP_succ {t : Store → Option (Out Bool)} {body : Store → Option (Out (SO Store))} {k : Nat} {σ : Store} : loopP t body (k + 1) σ = ebind (t σ) fun b => match b with | true => sbind (body σ) (loopP t body k) | false => some (.ok (.next σ)) := by
  show ebind (t σ) (fun b => if b = true then sbind (body σ) (loopP t body k) else some (.ok (.next σ))) = _
  congr 1; funext b; cases b <;> rfl
theorem forP_cons {body : PyData → Store → Option (Out (SO Store))} {d : PyData} {r : List PyData} {σ : Store} : forP body (d :: r) σ = sbind (body d σ) (forP body r) := rfl

theorem snd_nil : SndSs W C n Φ N [] [] := fun A s σ Q E _ _ I p => by

  exact wpAny_execs_nil (p s.heap s.toks I (XK.refl _))
theorem snd_cons {st : Stmt} {rest : List Stmt} {c : CS} {cs : List CS} (h : SndS W C n Φ N st c) (hs : SndSs W C n Φ N rest cs) : SndSs W C n Φ N (st :: rest) (c :: cs) := fun A s σ Q E hA R I p => by
  rw [evSs_cons] at p
  refine wpAny_execs_cons (h A s σ _ E hA R I (PS.imp (h := s.heap) (t := s.toks) p.sbind (fun σ' q h' tk I' xk => ?_) (fun _ _ q => q) (EStep.refl _ _)))
  exact hs A { s with heap := h', toks := tk } σ' Q E hA R I' (PS.move xk q)

theorem snd_if {t : Expr} {a b : List Stmt} {p : Pos} {ct : CE} {ca cb : List CS} (S : FS W C) (ht : SndT W C n Φ t ct) (ha : SndSs W C n Φ N a ca) (hb : SndSs W C n Φ N b cb) : SndS W C n Φ N (.If t a b p) (.ite ct ca cb) := fun A s σ Q E hA R I p => by
  rw [r_ite] at p
  refine wpAny_If (ht.then S hA R I (PE.ofS' S I p) fun c h' tk q g I' => ?_)
  have xk := I.xk S g
  cases c with
  | true => exact ha A { s with heap := h', toks := tk } σ Q E hA R I' (PS.move xk q)
  | false => exact hb A { s with heap := h', toks := tk } σ Q E hA R I' (PS.move xk q)

theorem estep_loop (S : FS W C) {A : Around} (hA : A.frames = some (C.env :: C.envs)) : EStep W C s E (notedBy (model W.prog W.w) A C.env (fun x s' => cameBackBy (model W.prog W.w) A C.env E x s')) :=
  fun _ h' tk _ _ x k => xe_loop (s := { s with heap := h', toks := tk }) S hA x fun h'' x' => k h'' x'

theorem snd_while {t : Expr} {b : List Stmt} {pos : Pos} {ct : CE} {cb : List CS} (S : FS W C) (ht : SndT W C n Φ t ct) (hb : SndSs W C n Φ N b cb) : SndS W C n Φ N (.While t b [] pos) (.loop ct cb) := fun A s σ Q E hA R I p => by
  rw [r_loop] at p
  refine wpAny_While (codeAny_whileLoop (fun k s' => ∃ σ h tk, s' = { s with heap := h, toks := tk } ∧ FI C h σ ∧ XK s.heap h ∧ PS W C s (KN C s Q) Q E (loopP (evT Φ ct) (evSs Φ N cb) k σ)) (fun k s' hI => ?_) N ⟨σ, s.heap, s.toks, rfl, I, XK.refl _, p⟩)
  obtain ⟨σ, h, tk, rfl, I, xk, p⟩ := hI
  cases k with
  | zero => exact p.elim
  | succ k =>
    rw [loopP_succ] at p
    refine ht.then (s := { s with heap := h, toks := tk }) S hA R I (PE.ofS S I (estep_loop S hA) p) fun b h' tk' q g I' => ?_
    have xk' : XK s.heap h' := xk.trans (I.xk S g)
    cases b with
    | true =>
      refine hb A { s with heap := h', toks := tk' } σ _ _ hA R I' (PS.imp (s := s) q.sbind (fun σ' q' h'' tk'' I'' xk'' => ?_) (fun _ _ q => q) (estep_loop S hA))
      exact ⟨k, Nat.lt_succ_self k, σ', h'', tk'', rfl, I'', xk'.trans xk'', q'⟩
    | false => exact wpAny_execs_nil (q h' tk' I' xk')

noncomputable def SndI (W : Wd) (C : Fm) (n : Nat) (Φ : Nat → List TV → Option (Out TV)) (e : Expr) (c : CIt) : Prop :=
  ∀ A s σ E (K : List PyData → Prop) (Q : Value → Shared → Prop), A.frames = some (C.env :: C.envs) → Rm n A → FI C s.heap σ → PE W C s K E (evIt Φ c σ) →
    (∀ xs J h' tk, K xs → Grow C.fr s.heap h' → s.heap.get? J = none → FI C h' σ → ItSt h' J xs → Q (.ref J) { s with heap := h', toks := tk }) →
    wpAny (model W.prog W.w) A (eval e C.env) (fun x s₁ => wpAny (model W.prog W.w) A (pyIter x) (fun it s₂ => Q it s₂) E s₁) E s

theorem snd_for (S : FS W C) {target iter : Expr} {b : List Stmt} {pos : Pos} {ci : CIt} {cb : List CS} {bodyf : PyData → Store → Option (Out (SO Store))} (hi : SndI W C n Φ iter ci) (hb : SndSs W C n Φ N b cb)
    (hs : ∀ x, foldedSetIterable iter C.env x = pure x)
    (ht : ∀ A (s₁ : Shared) σ d v as E' (Q' : Unit → Shared → Prop), A.handled = none → FI C s₁.heap σ → flat d = true → Reads s₁.heap v d as → bodyf d σ ≠ none →
      (∀ σ' h' tk, bodyf d σ = evSs Φ N cb σ' → FI C h' σ' → XK s₁.heap h' → Q' () { s₁ with heap := h', toks := tk }) → wpAny (model W.prog W.w) A (assign target C.env v) Q' E' s₁)
    {cc : CS} (hc : ∀ σ, evS Φ N cc σ = ebind (evIt Φ ci σ) fun xs => forP bodyf xs σ) : SndS W C n Φ N (.For target iter b [] pos) cc := fun A s σ Q E hA R I p => by
  rw [hc] at p
  refine wpAny_For (hi A s σ E _ _ hA R I (PE.ofS' S I p) fun xs J h₁ t₁ q g hJ I₁ st => ?_) hs
  refine codeAny_forLoop_any (fun k s' => ∃ rest σ h tk, rest.length = k ∧ s' = { s with heap := h, toks := tk } ∧ FI C h σ ∧ XK s.heap h ∧ ItSt h J rest ∧ PS W C s (KN C s Q) Q E (forP bodyf rest σ)) (fun k s' hI => ?_) xs.length
    ⟨xs, σ, h₁, t₁, rfl, rfl, I₁, I.xk S g, st, q⟩
  obtain ⟨rest, σ, h, tk, rfl, rfl, I', xk, st, p⟩ := hI
  obtain ⟨o, vs, _, e1, e2, _⟩ := st.there
  cases rest with
  | nil => exact it_done R.hh st fun h' keep => wpAny_execs_nil (p h' tk (I'.young keep (I.old hJ) e1 e2) (xk.young keep hJ))
  | cons d r =>
    rw [forP_cons] at p
    refine it_item st fun v h' tk' as f rd st' keep => ?_
    have I2 := I'.young keep (I.old hJ) e1 e2
    have xk2 := xk.young keep hJ
    refine owned_go st' (ht A _ σ d v as _ _ R.hh I2 f rd (fun q => by rw [q] at p; exact p.elim) fun σ' h'' tk'' hb' I3 xk3 => ?_)
    rw [hb'] at p
    refine hb A { s with heap := h'', toks := tk'' } σ' _ _ hA R I3 (PS.imp (s := s) p.sbind (fun σ'' q' h3 tk3 I4 xk4 => ?_) (fun _ _ q => q) (estep_loop S hA))
    exact ⟨r.length, Nat.lt_succ_self _, r, σ'', h3, tk3, rfl, rfl, I4, (xk2.trans xk3).trans xk4, st'.xk (xk3.trans xk4), q'⟩

theorem snd_ret {e : Expr} {p : Pos} {c : CE} (S : FS W C) (i1 : SndE W C n Φ e c) : SndS W C n Φ N (.Return (some e) p) (.ret c) := fun A s σ Q E hA R I p => by
  rw [r_ret] at p
  refine wpAny_Return_some (i1.then S hA R I (PE.ofS' S I p) fun tv v h' tk q g y I' => q v h' tk (I.grow.drop g S.new) ?_)
  cases tv with
  | val d => exact y
  | own xs => exact ⟨.inr ⟨xs, rfl, y.1⟩, y.2.1.reads⟩
  | exc t ec => exact y.birth fun _ q => I.old q
theorem snd_retNone {p : Pos} (S : FS W C) : SndS W C n Φ N (.Return none p) .retNone := fun A s σ Q E hA R I p => by
  rw [r_retNone] at p
  exact wpAny_Return_none (p .none s.heap s.toks I.grow tr_none)
theorem snd_assign {x : Str} {v : Expr} {p p' : Pos} {i : Nat} {c : CE} (S : FS W C) (hx : C.nm[i]? = some x) (hp : plainValue v = true) (i1 : SndE W C n Φ v c) : SndS W C n Φ N (.Assign [.Name x p'] v p) (.assign i c) := fun A s σ Q E hA R I p => by
  rw [r_assign] at p
  refine wpAny_Assign_Name (i1.then S hA R I (PE.ofS' S I p) fun tv v h' tk q g y I' => ?_) (by cases v <;> first | rfl | (simp [plainValue] at hp; done))
  split at q
  · rename_i hk
    cases tv with
    | val d =>
      obtain ⟨_, as, r⟩ := y
      exact store_flat S I' hx hk r fun h'' tk' I2 xk => q h'' tk' I2 ((I.xk S g).trans xk)
    | own xs => exact store_own S (s := { s with heap := h', toks := tk }) I g hx y fun h'' tk' I2 xk => q h'' tk' I2 ((I.xk S g).trans xk)
    | exc t ec => cases hk
  · exact q.elim
theorem snd_aug {x : Str} {op : Operator} {v : Expr} {p p' : Pos} {i : Nat} {c : CE} (S : FS W C) (hx : C.nm[i]? = some x) (i1 : SndE W C n Φ v c) : SndS W C n Φ N (.AugAssign (.Name x p') op v p) (.aug op i c) := fun A s σ Q E hA R I p => by
  rw [r_aug] at p
  split at p
  · rename_i a ha
    refine wpAny_AugAssign_Name ?_
    obtain ⟨m, hn, l⟩ := I.ns
    obtain ⟨y, w, e1, e2, r⟩ := l.has i _ ha
    rw [hx] at e1
    cases e1
    refine wpAny_loadName_local S.kind (S.loc x (List.mem_of_getElem? hx)) hn e2 ?_
    refine i1.then S hA R I (PE.ofS' S I p) fun tv v h' tk q g y I' => ?_
    obtain ⟨t, rfl⟩ := vrd_int r.vrd
    try dsimp only at q
    split at q
    · obtain ⟨t', rfl⟩ := vrd_int y.vrd
      exact wpAny_iadd_int (store_flat (s := { s with heap := h', toks := tk + 1 }) S I' hx rfl (.int _ _) fun h'' tk' I2 xk => q h'' tk' I2 ((I.xk S g).trans xk))
    · obtain ⟨t', rfl⟩ := vrd_int y.vrd
      exact PyProof.Rows.isub_int (store_flat (s := { s with heap := h', toks := tk + 1 }) S I' hx rfl (.int _ _) fun h'' tk' I2 xk => q h'' tk' I2 ((I.xk S g).trans xk))
    · exact q.elim
  · exact p.elim
theorem snd_drop {f : Expr} {as : List Expr} {ks : List Keyword} {p p' : Pos} {c : CE} (S : FS W C) (i1 : SndE W C n Φ (.Call f as ks p) c) : SndS W C n Φ N (.Expr (.Call f as ks p) p') (.drop c) := fun A s σ Q E hA R I p => by
  rw [r_drop] at p
  refine wpAny_Expr (i1.then S hA R I (PE.ofS' S I p) fun tv v h' tk q g y I' => ?_) (by unfold interactive; rw [show C.env.scope.kind = .function from S.kind]; rfl) rfl
  try dsimp only at q
  split at q
  · obtain rfl := vrd_none y.vrd
    exact q h' tk I' (I.xk S g)
  · exact q.elim
end
end NP
end
section
open PySem PySem.Calls PyProof.Rows PySem.W PySem.Spec
set_option maxRecDepth 100000
namespace NP

theorem sget_some {σ : Store} {i : Nat} {tv : TV} (h : sget σ i = some tv) : i < σ.length := by
  unfold sget at h
  cases q : σ[i]? with
  | none => rw [q] at h; cases h
  | some x => exact (List.getElem?_eq_some_iff.mp q).1
theorem sset_comm {σ : Store} {i j : Nat} {a b : TV} (h : i ≠ j) : sset (sset σ i a) j b = sset (sset σ j b) i a := by
  unfold sset
  exact List.set_comm _ _ h
theorem ssetAll_sset : ∀ (is : List Nat) (ds : List PyData) (σ : Store) (i : Nat) (a : TV), i ∉ is → ssetAll (sset σ i a) is ds = sset (ssetAll σ is ds) i a
  | [], _, _, _, _, _ => by simp [ssetAll]
  | j :: is, [], _, _, _, _ => by simp [ssetAll]
  | j :: is, d :: ds, σ, i, a, h => by
    simp only [ssetAll]
    rw [sset_comm (fun q => h (by rw [q]; exact List.mem_cons_self)), ssetAll_sset is ds _ i a fun q => h (List.mem_cons_of_mem _ q)]
theorem ssetAll_snoc : ∀ (is : List Nat) (ds : List PyData) (σ : Store) (i : Nat) (d : PyData), is.length = ds.length → ssetAll σ (is ++ [i]) (ds ++ [d]) = sset (ssetAll σ is ds) i (.val d)
  | [], [], _, _, _, _ => rfl
  | [], _ :: _, _, _, _, h => by simp at h
  | _ :: _, [], _, _, _, h => by simp at h
  | j :: is, e :: ds, σ, i, d, h => by
    simp only [List.cons_append, ssetAll]
    exact ssetAll_snoc is ds _ i d (by simpa using h)
theorem ssetAll_reverse : ∀ (is : List Nat) (ds : List PyData) (σ : Store), is.length = ds.length → is.Nodup → ssetAll σ is.reverse ds.reverse = ssetAll σ is ds
  | [], [], _, _, _ => rfl
  | [], _ :: _, _, h, _ => by simp at h
  | _ :: _, [], _, h, _ => by simp at h
  | j :: is, e :: ds, σ, h, hn => by
    obtain ⟨h1, h2⟩ := List.nodup_cons.mp hn
    have hl : is.length = ds.length := by simpa using h
    rw [List.reverse_cons, List.reverse_cons, ssetAll_snoc _ _ _ _ _ (by simpa using hl), ssetAll_reverse is ds σ hl h2]
    simp only [ssetAll]
    rw [ssetAll_sset _ _ _ _ _ h1]

section
variable (W : Wd) (C : Fm) (A : Around)
noncomputable def Sto : List (Value → Sem Unit) → List Nat → Prop
  | [], [] => True
  | f :: fs, i :: is => (∃ x, C.nm[i]? = some x ∧ ∀ v Q E s, wpAny (model W.prog W.w) A (storeName C.env x v) Q E s → wpAny (model W.prog W.w) A (f v) Q E s) ∧ Sto fs is
  | _, _ => False
end

section
variable {W : Wd} {C : Fm} {n : Nat} {Φ : Nat → List TV → Option (Out TV)} {N : Nat} {A : Around}

theorem Sto.snoc : ∀ {fs : List (Value → Sem Unit)} {is : List Nat} {f : Value → Sem Unit} {i : Nat}, Sto W C A fs is → (∃ x, C.nm[i]? = some x ∧ ∀ v Q E s, wpAny (model W.prog W.w) A (storeName C.env x v) Q E s → wpAny (model W.prog W.w) A (f v) Q E s) → Sto W C A (fs ++ [f]) (is ++ [i])
  | [], [], _, _, _, h => ⟨h, trivial⟩
  | _ :: _, _ :: _, _, _, ⟨a, b⟩, h => ⟨a, b.snoc h⟩
theorem Sto.reverse : ∀ {fs : List (Value → Sem Unit)} {is : List Nat}, Sto W C A fs is → Sto W C A fs.reverse is.reverse
  | [], [], _ => trivial
  | f :: fs, i :: is, ⟨a, b⟩ => by
    rw [List.reverse_cons, List.reverse_cons]
    exact b.reverse.snoc a
theorem Sto.length : ∀ {fs : List (Value → Sem Unit)} {is : List Nat}, Sto W C A fs is → fs.length = is.length
  | [], [], _ => rfl
  | _ :: _, _ :: _, ⟨_, b⟩ => congrArg (· + 1) b.length

theorem stores (S : FS W C) {E : Value → Shared → Prop} : ∀ {fs : List (Value → Sem Unit)} {is : List Nat} {ds : List PyData} {vs : List Value} {as : List Addr} {σ : Store} {s : Shared} {Q : Unit → Shared → Prop}, Sto W C A fs is → FI C s.heap σ → ReadsAll s.heap vs ds as → flats ds = true → is.length = ds.length →
    (∀ h' tk, FI C h' (ssetAll σ is ds) → XK s.heap h' → Q () { s with heap := h', toks := tk }) → wpAny (model W.prog W.w) A (assignInOrder fs vs) Q E s
  | [], [], [], vs, as, σ, s, Q, _, I, r, _, _, k => by
    cases r
    exact wpAny_pure (k s.heap s.toks I (XK.refl _))
  | f :: fs, i :: is, d :: ds, vs, as, σ, s, Q, ⟨⟨x, hx, hf⟩, b⟩, I, r, f', hl, k => by
    cases r with
    | cons r1 r2 =>
      have f2 := Bool.and_eq_true_iff.mp (show (flat d && flats ds) = true from f')
      refine wpAny_bind (wpAny_holding (hf _ _ _ _ (store_flat S I hx f2.1 r1 fun h' tk I' xk => ?_)))
      exact stores S (s := { s with heap := h', toks := tk }) b I' (readsAll_xk xk r2 f2.2) f2.2 (by simpa using hl) fun h'' tk' I2 xk2 => k h'' tk' I2 (xk.trans xk2)
  | [], _ :: _, _, _, _, _, _, _, h, _, _, _, _, _ => h.elim
  | _ :: _, [], _, _, _, _, _, _, h, _, _, _, _, _ => h.elim
  | [], [], _ :: _, _, _, _, _, _, _, _, _, _, hl, _ => by simp at hl
  | _ :: _, _ :: _, [], _, _, _, _, _, _, _, _, _, hl, _ => by simp at hl

theorem cNames_cons {nm : List Str} {e : Expr} {r : List Expr} {is : List Nat} (h : cNames nm (e :: r) = some is) : ∃ x p i is', e = .Name x p ∧ nm.idxOf? x = some i ∧ cNames nm r = some is' ∧ is = i :: is' := by
  obtain ⟨x, h1, h2⟩ := bind_inv h
  obtain ⟨i, h3, h4⟩ := bind_inv h2
  obtain ⟨is', h5, rfl⟩ := map_inv h4
  obtain ⟨p, rfl⟩ := idOf_inv h1
  exact ⟨x, p, i, is', rfl, h3, h5, rfl⟩
theorem sto_each : ∀ {ts : List Expr} {is : List Nat}, cNames C.nm ts = some is → Sto W C A ((assignEach ts C.env).map (·.2)) is ∧ (assignEach ts C.env).findIdx? (·.1) = none ∧ (assignEach ts C.env).length = is.length
  | [], _, h => by cases h; exact ⟨trivial, rfl, rfl⟩
  | e :: r, is, h => by
    obtain ⟨x, p, i, is', rfl, h1, h2, rfl⟩ := cNames_cons h
    obtain ⟨a, b, c⟩ := sto_each h2
    refine ⟨⟨⟨x, idx_get h1, fun v Q E s k => wpAny_assign_Name k⟩, a⟩, ?_, congrArg (· + 1) c⟩
    show List.findIdx? (·.1) ((false, assign (.Name x p) C.env) :: assignEach r C.env) = none
    rw [List.findIdx?_cons, b]
    rfl
theorem sto_names : ∀ {ts : List Expr} {is : List Nat}, cNames C.nm ts = some is → Sto W C A ((ts.filterMap idOf).map fun x => bindName C.env x) is ∧ (ts.filterMap idOf).length = ts.length
  | [], _, h => by cases h; exact ⟨trivial, rfl⟩
  | e :: r, is, h => by
    obtain ⟨x, p, i, is', rfl, h1, h2, rfl⟩ := cNames_cons h
    obtain ⟨a, b⟩ := sto_names h2
    exact ⟨⟨⟨x, idx_get h1, fun v Q E s k => wpAny_bindName k⟩, a⟩, congrArg (· + 1) b⟩
theorem cNames_length : ∀ {nm : List Str} {ts : List Expr} {is : List Nat}, cNames nm ts = some is → is.length = ts.length
  | _, [], _, h => by cases h; rfl
  | _, e :: r, is, h => by
    obtain ⟨x, p, i, is', rfl, h1, h2, rfl⟩ := cNames_cons h
    exact congrArg (· + 1) (cNames_length h2)

theorem items_tuple {k : Nat} {d : PyData} {ds : List PyData} (h : items k d = some ds) : d = .tuple ds ∧ ds.length = k := by
  unfold items at h
  split at h
  · split at h
    · rename_i q; cases h; exact ⟨rfl, q⟩
    · cases h
  · cases h

theorem assign_tuple (S : FS W C) {ts : List Expr} {k : Nat} {tp : Pos} {is : List Nat} (hts : cNames C.nm ts = some is) {s : Shared} {σ : Store} {v : Value} {d : PyData} {ds : List PyData} {as : List Addr} {E : Value → Shared → Prop} {Q : Unit → Shared → Prop} (hh : A.handled = none)
    (I : FI C s.heap σ) (f : flat d = true) (r : Reads s.heap v d as) (hd : items is.length d = some ds) (hQ : ∀ h' tk, FI C h' (ssetAll σ is ds) → XK s.heap h' → Q () { s with heap := h', toks := tk }) :
    wpAny (model W.prog W.w) A (assign (.Tuple ts k tp) C.env v) Q E s := by
  obtain ⟨rfl, hl⟩ := items_tuple hd
  obtain ⟨ff, t, vs, as', rfl, ht, ht2, rr⟩ := vrd_tuple (h := s.heap) (v := v) (xs := ds) ⟨.inl f, as, r⟩
  obtain ⟨a, b, c⟩ := sto_each (W := W) (A := A) hts
  have hl2 := readsAll_length rr
  refine wpAny_assign_Tuple hh ht (by rw [c, ← hl, List.size_toArray, hl2]) b fun h' he => ?_
  have keep : ∀ b o, s.heap.get? b = some o → h'.get? b = some o := fun b o e => he b o (Nat.ne_of_lt (Heap.lt_size e)) e
  exact stores S (s := { s with heap := h' }) a (I.more keep) (readsAll_xk (.of_stays keep) rr ff) ff hl.symm fun h'' tk I2 xk2 => hQ h'' tk I2 ((XK.of_stays keep).trans xk2)

theorem flats_reverse (xs : List PyData) : flats xs.reverse = flats xs := by
  induction xs with
  | nil => rfl
  | cons x r ih => rw [List.reverse_cons, flats_append, ih]; show (flats r && (flat x && true)) = (flat x && flats r); cases flat x <;> cases flats r <;> rfl
theorem readsAll_reverse {h : Heap} : ∀ {vs : List Value} {ds : List PyData} {as : List Addr}, ReadsAll h vs ds as → ∃ bs, ReadsAll h vs.reverse ds.reverse bs
  | _, _, _, .nil => ⟨_, .nil⟩
  | _, _, _, .cons h1 h2 => by
    obtain ⟨bs, r⟩ := readsAll_reverse h2
    rw [List.reverse_cons, List.reverse_cons]
    exact ⟨_, readsAll_append r (.cons h1 .nil)⟩
theorem filterMap_all {g : Expr → Option Str} (hg : ∀ e x, g e = some x → idOf e = some x) : ∀ {ts : List Expr}, (ts.filterMap g).length = ts.length → ts.filterMap g = ts.filterMap idOf
  | [], _ => rfl
  | e :: r, h => by
    cases q : g e with
    | none =>
      rw [List.filterMap_cons_none q] at h
      have := List.length_filterMap_le g r
      simp only [List.length_cons] at h
      omega
    | some x =>
      rw [List.filterMap_cons_some q] at h ⊢
      rw [List.filterMap_cons_some (hg e x q), filterMap_all hg (by simpa using h)]
theorem swap_ifs {c1 c2 c3 c4 : Prop} [Decidable c1] [Decidable c2] [Decidable c3] [Decidable c4] {x y : Sem (Option (List Str))} (h : ¬ (c4 ∧ ¬ c3)) :
    ((if c1 then pure none else if c2 then pure none else if c3 then pure none else if c4 then x else y) = pure none) ∨ ((if c1 then pure none else if c2 then pure none else if c3 then pure none else if c4 then x else y) = y ∧ ¬ c2) := by
  by_cases h1 : c1
  · left; rw [if_pos h1]
  by_cases h2 : c2
  · left; rw [if_neg h1, if_pos h2]
  by_cases h3 : c3
  · left; rw [if_neg h1, if_neg h2, if_pos h3]
  by_cases h4 : c4
  · exact (h ⟨h4, h3⟩).elim
  · right; rw [if_neg h1, if_neg h2, if_neg h3, if_neg h4]; exact ⟨rfl, h2⟩
theorem swapped_cases {ts : List Expr} {k : Nat} {tp : Pos} {v : Expr} {env : Env} (h : swOK v = true) :
    swappedStores [.Tuple ts k tp] v env = pure none ∨ swappedStores [.Tuple ts k tp] v env = pure (some (ts.filterMap idOf)) := by
  cases v <;> first | exact .inl rfl | skip
  rename_i vs kk pp
  unfold swappedStores
  dsimp only
  have hsw : ¬ (vs.all (constantsAlone 8) = true ∧ ¬ vs.all (foldedForSure 8) = true) := by
    simp only [swOK, Bool.or_eq_true, Bool.not_eq_true'] at h
    rintro ⟨a, b⟩
    rcases h with h | h
    · rw [a] at h; cases h
    · exact b h
  split
  · exact .inl rfl
  refine (swap_ifs hsw).imp id fun ⟨q, hc⟩ => q.trans ?_
  congr 2
  refine filterMap_all (fun e x hx => ?_) ?_
  · split at hx
    · split at hx
      · cases hx; rfl
      · cases hx
    · cases hx
  · simp only [Bool.or_eq_true, bne_iff_ne, ne_eq, not_or, Decidable.not_not] at hc
    exact hc.1

theorem snd_assignT (S : FS W C) {ts : List Expr} {k : Nat} {tp p : Pos} {v : Expr} {is : List Nat} {c : CE} (hts : cNames C.nm ts = some is) (hp : plainValue v = true) (hw : swOK v = true) (hn : is.Nodup) (i1 : SndE W C n Φ v c) :
    SndS W C n Φ N (.Assign [.Tuple ts k tp] v p) (.assignT is c) := fun A s σ Q E hA R I q => by
  rw [r_assignT] at q
  have hsole : swapsWithSole [.Tuple ts k tp] v p.line C.env = pure false := by cases v <;> first | rfl | (simp [plainValue] at hp; done)
  have fin : ∀ tv v h' tk, PS W C s (KN C s Q) Q E (match tv with | .val d => lift ((items is.length d).map fun ds => .next (ssetAll σ is ds)) | _ => none) → Grow C.fr s.heap h' → TR W.CR s.heap h' v tv → FI C h' σ →
      ∃ d ds as, tv = .val d ∧ items is.length d = some ds ∧ flat d = true ∧ Reads h' v d as ∧ KN C { s with heap := h', toks := tk } Q (ssetAll σ is ds) := fun tv v h' tk q g y I' => by
    split at q
    · rename_i d
      cases hi : items is.length d with
      | none => rw [hi] at q; exact q.elim
      | some ds =>
        rw [hi] at q
        obtain ⟨rfl, hl⟩ := items_tuple hi
        obtain ⟨ok, as, r⟩ := y
        have f : flat (.tuple ds) = true := by
          rcases ok with f | ⟨xs, e, _⟩
          · exact f
          · cases e
        exact ⟨_, ds, as, rfl, hi, f, r, fun h'' tk' I2 xk => q h'' tk' I2 ((I.xk S g).trans xk)⟩
    · exact q.elim
  rcases swapped_cases (ts := ts) (k := k) (tp := tp) (env := C.env) hw with hsw | hsw
  · refine PyProof.Rows.Assign_Tuple (i1.then S hA R I (PE.ofS' S I q) fun tv v h' tk q g y I' => ?_) hsole hsw
    obtain ⟨d, ds, as, rfl, hi, f, r, K⟩ := fin tv v h' tk q g y I'
    exact assign_tuple S (s := { s with heap := h', toks := tk }) hts R.hh I' f r hi K
  · refine PyProof.Rows.Assign_Tuple_swapped (i1.then S hA R I (PE.ofS' S I q) fun tv v h' tk q g y I' => ?_) hsole hsw
    obtain ⟨d, ds, as, rfl, hi, f, r, K⟩ := fin tv v h' tk q g y I'
    obtain ⟨rfl, hl⟩ := items_tuple hi
    obtain ⟨ff, t, vs, as', rfl, ht, ht2, rr⟩ := vrd_tuple (h := h') (v := v) (xs := ds) ⟨.inl f, as, r⟩
    obtain ⟨a, b⟩ := sto_names (W := W) (A := A) hts
    have hl2 := readsAll_length rr
    have hsz : (ts.filterMap idOf).length = vs.toArray.size := by rw [b, List.size_toArray, hl2, hl]; exact (cNames_length hts).symm
    rw [hsz]
    refine wpAny_unpackItems_tuple R.hh ht fun h'' he => ?_
    have keep : ∀ b o, h'.get? b = some o → h''.get? b = some o := fun b o e => he b o (Nat.ne_of_lt (Heap.lt_size e)) e
    rw [List.map_reverse]
    have rr2 : ReadsAll h'' vs ds as' := readsAll_xk (.of_stays keep) rr ff
    obtain ⟨as2, rr3⟩ := readsAll_reverse rr2
    refine stores S (s := { s with heap := h'', toks := tk }) (ds := ds.reverse) a.reverse (I'.more keep) rr3 (by rw [flats_reverse]; exact ff) (by simp [hl]) fun h3 tk3 I3 xk3 => ?_
    rw [ssetAll_reverse _ _ _ hl.symm hn] at I3
    exact K h3 tk3 I3 ((XK.of_stays keep).trans xk3)
end
end NP
end
section
open PySem PySem.Calls PyProof.Rows PySem.W PySem.Spec
set_option maxRecDepth 100000
namespace NP

section
variable {W : Wd} {C : Fm} {n : Nat} {Φ : Nat → List TV → Option (Out TV)} {N : Nat} {fn : Str → Option Nat}

theorem snd_append (S : FS W C) {x : Str} {a : Expr} {q ap p p' : Pos} {i : Nat} {c : CE} (hx : C.nm[i]? = some x) (hd : (x == Str.ofString "__debug__") = false) (hl : (ap.endLine == p.line) = true) (hs : isStarred a = false) (i1 : SndE W C n Φ a c) :
    SndS W C n Φ N (.Expr (.Call (.Attribute (.Name x q) (Str.ofString "append") ap) [a] [] p) p') (.append i c) := fun A s σ Q E hA R I z => by
  rw [r_append] at z
  split at z
  · rename_i xs hxs
    have hstar : backTo p (starEach [a] C.env) = [(false, eval a C.env)] := starEach_plain (es := [a]) (by intro e he; rcases List.mem_cons.mp he with rfl | he; exact hs; cases he)
    refine wpAny_Expr (wpAny_Call_append rfl ?_ hl hstar ?_) (by unfold interactive; rw [show C.env.scope.kind = .function from S.kind]; rfl) rfl
    · rw [hstar]; rfl
    · obtain ⟨m, hn, l⟩ := I.ns
      obtain ⟨y, w, e1, e2, f, ⟨D, vs, as, rfl, pl, rr⟩, b, eb, hb⟩ := l.has i _ hxs
      cases eb
      rw [hx] at e1
      cases e1
      refine wpAny_Name (wpAny_loadName_local S.kind (S.loc x (List.mem_of_getElem? hx)) hn e2 ⟨D, vs.toArray, rfl, pl, ?_⟩) hd
      refine i1.then S hA R I (PE.ofS' S I z) fun tv v h' tk r g yv I' => ?_
      split at r
      · rename_i d
        split at r
        · rename_i hk
          obtain ⟨hf, hz⟩ := Bool.and_eq_true_iff.mp hk
          unfold okSize at hz
          have hz := of_decide_eq_true hz
          have pl' := plainL_up (g.up D) pl
          have rr' := readsAll_up g.up rr
          have hl2 := readsAll_length rr'
          obtain ⟨_, as2, rd⟩ := yv
          refine list_append_plainL pl' (fun h'' pl'' sb => ?_) (by rw [List.size_toArray, hl2, sizeLine_eq]; omega)
          have clsD : ∀ o, h'.get? D = some o → o.cls ≠ .type "tuple" := fun o e => by
            obtain ⟨o', n', e', c', _⟩ := pl'
            rw [e'] at e; injection e with e; subst e; rw [c']; simp
          have keep : ∀ b o, b ≠ D → h'.get? b = some o → h''.get? b = some o := fun b o nb e => (sb.2 b nb).trans e
          have kt : ∀ b o, h'.get? b = some o → o.cls = .type "tuple" → (∃ x n, o.data = .seq x n) → ∃ sl, h''.get? b = some { o with slots := sl } := fun b o e c _ => ⟨o.slots, keep b o (fun q => clsD o (q ▸ e) c) e⟩
          have xk : XK h' h'' := .but (a := D) keep fun o e => by
            obtain ⟨o', n', e', c', _, d'⟩ := pl'
            rw [e'] at e; injection e with e; subst e
            exact ⟨fun vs q => (by rw [d'] at q; cases q), fun q => (by rw [c'] at q; simp at q)⟩
          obtain ⟨g', m', n', l'⟩ := I'
          have nL : C.L ≠ D := fun q => by
            obtain ⟨o2, es, ep, e1, e2, _⟩ := n'
            obtain ⟨o', n', e', c', _, d'⟩ := pl'
            rw [q, e'] at e1; injection e1 with e1; subst e1; rw [d'] at e2; cases e2
          obtain ⟨y', w', f1, f2, f3, ⟨D', vs', as', eD, pl3, rr3⟩, b', eb', hb'⟩ := l'.has i _ hxs
          have mD : m' x = some (.ref D) := by
            obtain ⟨o1, es1, ep1, a1, a2, a3, a4⟩ := hn
            obtain ⟨sl, q⟩ := g.up C.L o1 a1
            obtain ⟨o2, es2, ep2, b1, b2, b3, b4⟩ := n'
            rw [q] at b1; injection b1 with b1; subst b1
            rw [a2] at b2; injection b2 with b2 b3'; subst b2
            rw [← b4, a4]; exact e2
          rw [hx] at f1; cases f1
          rw [mD] at f2; cases f2
          cases eD
          refine r h'' tk ⟨g'.but keep (by cases eb'; exact hb'), m', ns_up (fun o e => ⟨o.slots, keep _ _ nL e⟩) n', fun j tv' e => ?_, fun j ys e y a hy hm j' y2 tv2 hne e2 hy2 => ?_⟩ ((I.xk S g).trans xk)
          · rcases sget_sset e with ⟨rfl, rfl⟩ | ⟨hne, e⟩
            · refine ⟨x, .ref D, hx, mD, by rw [flats_append, f]; show (true && (flat d && true)) = true; rw [hf]; rfl, ⟨D, vs ++ [v], as' ++ (as2 ++ []), rfl, ?_, ?_⟩, D, rfl, by cases eb'; exact hb'⟩
              · have : (vs ++ [v]).toArray = vs.toArray.push v := by simp
                rw [this]; exact pl''
              · have hvv : vs' = vs := by
                  obtain ⟨o3, n3, g1, _, _, g2⟩ := pl3
                  obtain ⟨o4, n4, g3, _, _, g4⟩ := pl'
                  rw [g1] at g3; injection g3 with g3; subst g3
                  rw [g2] at g4; injection g4 with g4
                  simpa using g4
                subst hvv
                exact readsAll_append (readsAll_tup kt rr3 f) (.cons (reads_tup kt rd hf) .nil)
            · obtain ⟨y3, w3, a1, a2, a3⟩ := l'.has j tv' e
              refine ⟨y3, w3, a1, a2, a3.lst (a := D) (fun b o nb e _ => ⟨o.slots, keep b o nb e⟩) clsD fun q => ?_⟩
              exact l'.sep i xs hxs x D hx mD j y3 tv' hne e a1 (q ▸ a2)
          · have back : ∀ {k : Nat} {tv : TV}, sget (sset σ i (.own (xs ++ [d]))) k = some tv → ∃ tv', sget σ k = some tv' ∧ isOwn tv' = isOwn tv := fun {k tv} q => by
              rcases sget_sset q with ⟨rfl, rfl⟩ | ⟨_, q⟩
              · exact ⟨_, hxs, rfl⟩
              · exact ⟨_, q, rfl⟩
            obtain ⟨t1, q1, o1⟩ := back e
            obtain ⟨t2, q2, _⟩ := back e2
            cases t1 with
            | own zs => exact l'.sep j zs q1 y a hy hm j' y2 t2 hne q2 hy2
            | val _ => cases o1
            | exc _ _ => cases o1
        · exact r.elim
      · exact r.elim
  · exact z.elim


theorem snd_it (S : FS W C) (O : WOK W) (H : Calls W fn n Φ) {k : Nat} {e : Expr} {c : CIt} (h : cIt C.sc C.nm fn k e = some c) : SndI W C n Φ e c ∧ ∀ x, foldedSetIterable e C.env x = pure x := by
  have other : ∀ {e : Expr} {c : CIt}, (cE C.sc C.nm fn k e).map CIt.val = some c → SndI W C n Φ e c ∧ ∀ x, foldedSetIterable e C.env x = pure x := fun {e c} h => by
    obtain ⟨c', h1, rfl⟩ := Option.map_eq_some_iff.mp h
    refine ⟨fun A s σ E K Q hA R I p kk => (snd_all S O H k e c' h1).1.iter S hA R I p kk, fun x => ?_⟩
    cases e <;> first | rfl | skip
    cases k <;> cases h1
  rcases or_inv h with ⟨q, h1, h2⟩ | h1
  · obtain ⟨p, p', rfl⟩ := rngArg_inv h1
    split at h2
    · rename_i hg
      obtain ⟨c', h7, rfl⟩ := Option.map_eq_some_iff.mp h2
      have hg := (Bool.and_eq_true_iff.mp hg).1
      obtain ⟨q1, q2⟩ := q
      dsimp only at h7 hg
      unfold glb at hg
      have h2 := bool_and hg
      have h3 := bool_and h2.1
      obtain rfl := eq_of_beq h3.1
      exact ⟨fun A s σ E K Q hA R I p kk => (snd_all S O H k q2 c' h7).1.range S O (cE_star h7) (eq_of_beq h2.2) hA R I p kk, fun _ => rfl⟩
    · exact other h2
  · exact other h1
theorem cS_for1 (S : FS W C) {x : Str} {xp pos : Pos} {i : Nat} {iter : Expr} {b : List Stmt} {ci : CIt} {cb : List CS} (hx : C.nm[i]? = some x) (hi : SndI W C n Φ iter ci) (hs : ∀ x, foldedSetIterable iter C.env x = pure x) (hb : SndSs W C n Φ N b cb) :
    SndS W C n Φ N (.For (.Name x xp) iter b [] pos) (.for1 i ci cb) :=
  snd_for S (bodyf := fun d σ => evSs Φ N cb (sset σ i (.val d))) hi hb hs (fun A s₁ σ d v as E' Q' hh I f r _ k =>
    wpAny_assign_Name (store_flat S I hx f r fun h' tk I' xk => k _ h' tk rfl I' xk)) fun σ => rfl
theorem cS_forT (S : FS W C) {ts : List Expr} {k : Nat} {tp pos : Pos} {is : List Nat} {iter : Expr} {b : List Stmt} {ci : CIt} {cb : List CS} (hts : cNames C.nm ts = some is) (hi : SndI W C n Φ iter ci) (hs : ∀ x, foldedSetIterable iter C.env x = pure x) (hb : SndSs W C n Φ N b cb) :
    SndS W C n Φ N (.For (.Tuple ts k tp) iter b [] pos) (.forT is ci cb) :=
  snd_for S (bodyf := fun d σ => match items is.length d with | some ds => evSs Φ N cb (ssetAll σ is ds) | none => none) hi hb hs (fun A s₁ σ d v as E' Q' hh I f r hne kk => by
    cases hd : items is.length d with
    | none => rw [hd] at hne; exact (hne rfl).elim
    | some ds => exact assign_tuple S hts hh I f r hd fun h' tk I' xk => kk _ h' tk (by rw [hd]) I' xk) fun σ => rfl
end
end NP
end
section
open PySem PySem.Calls PyProof.Rows PySem.W PySem.Spec
set_option maxRecDepth 100000
namespace NP


theorem base_exc : excBm.contains (.type "BaseException") = true := by decide +kernel

section
variable {M : Model} {A : Around} {E : Value → Shared → Prop} {env : Env}
variable {nm q : Str} {C N : Addr} {bs : List Value} {hdct : Bool} {sn : List Str} {sub : List Value} {ab : Bool} {col : Option Bool} {dd : Option Addr} {k0 k1 k2 k3 k5 : Option Value} {newId : String}

theorem setFlight_fresh {s : Shared} {e : Addr} {o : Obj} {vs : Array Value} {f : Option Addr} {Q : Unit → Shared → Prop} (he : s.heap.get? e = some o) (hd : o.data = .fields vs) (h1 : vs[1]? = some .none) (hQ : Q () s) : wpAny M A (setFlight (.ref e) f) Q E s := by
  unfold setFlight
  refine wpAny_bind (wpAny_field he hd h1 ?_)
  rw [if_neg (by decide)]
  exact wpAny_pure hQ

theorem raise_own {s : Shared} {x : Sem Value} {Q : Flow → Shared → Prop} (hh : A.handled = none)
    (h : wpAny M A x (fun v s₁ => ∃ e D vs sl, v = .ref e ∧ s₁.heap.get? C = some (excClassObj nm q C N bs excBm hdct sn sub ab col dd k0 k1 k2 k3 k5 newId) ∧
      s₁.heap.get? e = some ⟨.ref C, some D, .fields vs, sl⟩ ∧ vs[1]? = some .none ∧ E (.ref e) s₁) E s) :
    wpAny M A (raiseStmt env (some x) none) Q E s := by
  have hcB : (Value.ref C :: excBm).contains (.type "BaseException") = true := by rw [List.contains_cons, base_exc, Bool.or_true]
  unfold raiseStmt
  refine wpAny_bind (wpAny_mono h (fun v s₁ h₁ => ?_) fun _ _ x => x)
  obtain ⟨e, D, vs, sl, rfl, hC, he, h1, hE⟩ := h₁
  obtain ⟨hp, g, d, tk, os⟩ := s₁
  repeat (first | with_reducible refine setFlight_fresh he rfl h1 ?_ | with_reducible refine wpAny_loadPart_at he ?_ | with_reducible refine wpAny_loadPart_at hC ?_ | (with_reducible refine wpAny_isSubtype_exc hC ?_; rw [hcB]) | wp_step)
  exact wpAny_raiseNew_none hh hE
end
end NP
end
section
open PySem PySem.Calls PyProof.Rows PySem.W PySem.Spec
set_option maxRecDepth 100000
namespace NP

theorem zip_lookup : ∀ (ns : List Str) (vs : List Value), ns.length = vs.length → ∀ x ∈ ns, ((ns.zip vs).lookup x).isSome = true
  | [], _, _, x, h => by cases h
  | n :: ns, [], h, _, _ => by simp at h
  | n :: ns, v :: vs, h, x, hx => by
    rw [List.zip_cons_cons, List.lookup_cons]
    cases q : x == n with
    | true => rfl
    | false =>
      rcases List.mem_cons.mp hx with r | hx
      · rw [r] at q; simp at q
      · exact zip_lookup ns vs (by simpa using h) x hx
theorem zip_filterMap : ∀ (ns : List Str) (vs : List Value), ns.length = vs.length → ns.Nodup → ns.filterMap (fun n => ((ns.zip vs).lookup n).map (n, ·)) = ns.zip vs := by
  have key : ∀ (ns : List Str) (vs : List Value) (pre : List (Str × Value)), ns.length = vs.length → ns.Nodup → (∀ x ∈ ns, pre.lookup x = none) → ns.filterMap (fun n => ((pre ++ ns.zip vs).lookup n).map (n, ·)) = ns.zip vs := by
    intro ns
    induction ns with
    | nil => intro vs pre _ _ _; rfl
    | cons n ns ih =>
      intro vs pre hl hn hp
      cases vs with
      | nil => simp at hl
      | cons v vs =>
        obtain ⟨h1, h2⟩ := List.nodup_cons.mp hn
        have e0 : (pre ++ (n :: ns).zip (v :: vs)).lookup n = some v := by
          rw [List.lookup_append, hp n List.mem_cons_self]
          simp [List.lookup_cons]
        rw [List.filterMap_cons_some (by rw [e0]; rfl)]
        have := ih vs (pre ++ [(n, v)]) (by simpa using hl) h2 fun x hx => by
          rw [List.lookup_append, hp x (List.mem_cons_of_mem _ hx)]
          have : (x == n) = false := by
            cases q : x == n with
            | false => rfl
            | true => exact absurd (eq_of_beq q ▸ hx) h1
          simp [List.lookup_cons, this]
        rw [List.append_assoc] at this
        exact congrArg ((n, v) :: ·) this
  intro ns vs hl hn
  simpa using key ns vs [] hl hn fun _ _ => rfl

theorem bind_plain {name : Str} {params : Arguments} {body : List Stmt} {scope : Scope} {pm cd doc : Value} (hp : plainParams params = true) {vs : List Value} (hl : vs.length = params.args.length) (hn : (params.args.map (·.arg)).Nodup) :
    bindArgs (docDef name params body scope pm cd doc) ⟨vs, []⟩ = pure ((params.args.map (·.arg)).zip vs) := by
  obtain ⟨po, as, va, ko, kd, kw, df⟩ := params
  simp only [plainParams, Bool.and_eq_true, List.isEmpty_iff, Option.isNone_iff_eq_none] at hp
  obtain ⟨⟨⟨⟨⟨rfl, rfl⟩, rfl⟩, rfl⟩, rfl⟩, rfl⟩ := hp
  have hz : (as.map (·.arg)).length = vs.length := by simpa using hl.symm
  have hm : ((as.map (·.arg)).filter fun n => (((as.map (·.arg)).zip vs).lookup n).isNone) = [] := by
    rw [List.filter_eq_nil_iff]
    intro x hx q
    have := zip_lookup _ vs hz x hx
    rw [Option.isSome_iff_ne_none] at this
    exact this (by simpa using q)
  have hz2 := zip_filterMap _ vs hz hn
  have hle : ¬ (vs.length > as.length) := by simp only [List.length_map] at hz; omega
  rw [List.filterMap_map] at hz2
  simp [bindArgs, docDef, seqItems?, notAStandIn, List.take_of_length_le, hm, hl]
  exact congrArg pure hz2
end NP
end
section
open PySem PySem.Calls PyProof.Rows PySem.W PySem.Spec
set_option maxRecDepth 100000
namespace NP
open Builtin Builtin.ObjectAttr in
section
variable {prog : Program} {w : World} {A : Around} {E : Value → Shared → Prop} {h : Heap} {g : Array GenState} {d : Drawn} {t : Nat} {os : OsState}
variable {nm q : Str} {C N x : Addr} {bs : List Value} {sn : List Str} {sub : List Value} {ab : Bool} {col : Option Bool} {dd : Option Addr} {k0 k1 k2 k3 k5 : Option Value} {newId : String}
  {mN mA : Str → Option Value} {name : Str} {v : Value}

theorem exc_load_entry {tk : Tok} {Q : Fin → Shared → Prop}
    (hC : h.get? C = some (excClassObj nm q C N bs excBm true sn sub ab col dd k0 k1 k2 k3 k5 newId)) (hn : h.Ns N mN) (hna : mN name = none)
    (hB : typeLookup (.type "Exception") name = pure none) (I : h.Inst x C mA) (hv : mA name = some v) (hq : Q (.done (.ret v)) ⟨h, g, d, t, os⟩) :
    wpAny (model prog w) A (Builtin.«object.__getattribute__» ⟨[.ref x, .str name tk], []⟩) Q E ⟨h, g, d, t, os⟩ := by
  obtain ⟨o, hx, hc, hnc, hd⟩ := I
  rcases hd with ⟨_, hmA⟩ | ⟨dx, hdx, hne, hns⟩
  · rw [hmA name] at hv; cases hv
  have hm : mroOf (.type "Exception") = pure excBm := F.excBase_Exception.mroIs
  unfold Builtin.«object.__getattribute__»
  repeat (first | (with_reducible refine wpAny_loadPart_at hx ?_; rw [hc]) | (with_reducible refine wpAny_typeLookup_exc hC hn hm hB ?_; rw [hna]) | wp_step)
  split
  · rename_i c hcd
    exact absurd hcd (hnc c)
  unfold instanceDict
  repeat (first | (with_reducible refine wpAny_loadPart_at hx ?_; rw [hc]) | with_reducible refine wpAny_loadPart_at hC ?_ | wp_step)
  rw [hdx]
  repeat (first | (with_reducible refine wpAny_nsGet hns.ns ?_; rw [hv]) | wp_step)
  exact hq

theorem exc_load {expr : Bool} {Q : Value → Shared → Prop}
    (hC : h.get? C = some (excClassObj nm q C N bs excBm true sn sub ab col dd k0 k1 k2 k3 k5 newId)) (hn : h.Ns N mN) (hng : mN "__getattribute__" = none) (hng2 : mN "__getattr__" = none) (hna : mN name = none)
    (hB : typeLookup (.type "Exception") name = pure none) (I : h.Inst x C mA) (hv : mA name = some v) (hh : handedOut v = pure v) (hq : ∀ t', Q v ⟨h, g, d, t', os⟩) :
    wpAny (model prog w) A (getAttr (.ref x) name expr) Q E ⟨h, g, d, t, os⟩ := by
  obtain ⟨o, hx, hc, _⟩ := id I
  have FB := F.attrBase_Exception
  have hm : mroOf (.type "Exception") = pure excBm := FB.mro
  have f3 := FB.ga.bind (.ref x)
  have hx0 : (expr && onTheHeap (Value.builtin "BaseException.__getattribute__")) = false := by cases expr <;> rfl
  have hx2 : (Value.builtin "BaseException.__getattribute__" == Value.builtin "object.__getattribute__") = false := by decide +kernel
  have hx1 : (onTheHeap (Value.ref C) && Value.builtin "BaseException.__getattribute__" == Value.builtin "object.__getattribute__") = false := by rw [hx2]; rfl
  unfold getAttr getAttrBy
  repeat (any_goals (first | assumption | (with_reducible refine wpAny_loadPart_at hx ?_; rw [hc]) | (with_reducible refine wpAny_typeLookup_exc hC hn hm FB.ga.lookup ?_; rw [hng]) | (with_reducible refine wpAny_typeLookup_exc hC hn hm FB.noGetattr ?_; rw [hng2]) | wp_step))
  refine codeAny_call_builtin FB.ga.plain F.entry_bexc_ga (wpAny_check_ga_own FB hC .base hx hc (exc_load_entry hC hn hna hB I hv ?_))
  repeat (any_goals (first | assumption | wp_step))
  all_goals first | (rw [hh]; exact wpAny_pure (hq _)) | exact hq _ | skip
end
end NP
end
section
open PySem PySem.Calls PyProof.Rows PySem.W PySem.Spec
set_option maxRecDepth 100000
namespace NP

structure Cls (W : Wd) where
  nm : Str
  q : Str
  N : Addr
  bs : List Value
  sn : List Str
  sub : List Value
  ab : Bool
  col : Option Bool
  dd : Option Addr
  k0 : Option Value
  k1 : Option Value
  k2 : Option Value
  k3 : Option Value
  k5 : Option Value
  mN : Str → Option Value
  hC : W.B0.get? W.CR = some (excClassObj nm q W.CR N bs excBm true sn sub ab col dd k0 k1 k2 k3 k5 "Exception.__new__")
  hn : W.B0.Ns N mN
  no : ∀ x ∈ noNames, mN (Str.ofString x) = none
  mg : W.mg (Str.ofString "Raised") = some (.ref W.CR)

theorem lk_code : typeLookup (.type "Exception") "code" = pure none := by rw [typeLookup_type, builtinLookup_eq_fast]; kernel_rfl
theorem lk_value : typeLookup (.type "Exception") "value" = pure none := by rw [typeLookup_type, builtinLookup_eq_fast]; kernel_rfl
theorem lk_errorcode : typeLookup (.type "Exception") "errorcode" = pure none := by rw [typeLookup_type, builtinLookup_eq_fast]; kernel_rfl

theorem handed_reads {h : Heap} {v : Value} {d : PyData} {as : List Addr} (r : Reads h v d as) : handedOut v = pure v := by cases r <;> rfl
theorem XObj.inst {CR : Addr} {hb h : Heap} {e : Addr} {t : Str} {ec : PyData} {tb : Value} (x : XObj CR hb h e t ec tb) :
    ∃ mA, h.Inst e CR mA ∧ (∃ k, mA "code" = some (.int 1 k)) ∧ (∃ k, mA "value" = some (.str t k)) ∧ ∃ v as, mA "errorcode" = some v ∧ flat ec = true ∧ Reads h v ec as := by
  obtain ⟨D, m, vs, sl, ecv, tk1, tk2, as, a1, a2, a3, a4, a5, a6, a7, a8, a9, a10⟩ := x
  refine ⟨m, ⟨_, a1, rfl, fun c q => (nomatch q), .inr ⟨D, rfl, fun q => ?_, a5⟩⟩, ⟨_, a6⟩, ⟨_, a7⟩, _, _, a8, a9, a10⟩
  exact ns1_data a5 (by rw [q]; exact a1) rfl

section
variable {W : Wd} {C : Fm} {n : Nat} {Φ : Nat → List TV → Option (Out TV)} {N : Nat} {A : Around} {s : Shared} {E : Value → Shared → Prop}

theorem attr_read (S : FS W C) (X : Cls W) {x : Str} {e : Addr} {m mA : Str → Option Value} {y : String} {a : Expr} {v : Value} {Q : Value → Shared → Prop} (ha : isAttrOf x y a = true) (hd : (x == Str.ofString "__debug__") = false) (hl : C.sc.names.lookup x = some .local)
    (hn : s.heap.Ns C.L m) (hm : m x = some (.ref e)) (kb : W.B0.StaysIn s.heap) (I : s.heap.Inst e W.CR mA) (hno : y ∈ noNames) (hB : typeLookup (.type "Exception") (Str.ofString y) = pure none)
    (hv : mA (Str.ofString y) = some v) (hh : handedOut v = pure v) (hQ : ∀ tk, Q v { s with toks := tk }) : wpAny (model W.prog W.w) A (eval a C.env) Q E s := by
  cases a <;> try (simp [isAttrOf] at ha; done)
  rename_i b z pos
  cases b <;> try (simp [isAttrOf] at ha; done)
  rename_i x' p
  simp only [isAttrOf, Bool.and_eq_true, beq_iff_eq] at ha
  obtain ⟨rfl, rfl⟩ := ha
  rw [arm_eval_Attribute]
  refine wpAny_bind (wpAny_Name (wpAny_loadName_local S.kind hl hn hm (wpAny_bind (wpAny_standAt (wpAny_bind (wpAny_holding ?_))))) hd)
  obtain ⟨hp, g, d, tk, os⟩ := s
  refine exc_load (kb _ _ X.hC) (X.hn.keeps kb) (X.no _ (by simp [noNames])) (X.no _ (by simp [noNames])) (X.no _ hno) hB I hv hh fun t' => ?_
  exact wpAny_bind (wpAny_pure (wpAny_pure (hQ t')))

theorem catch_suite (S : FS W C) (X : Cls W) {x : Str} {e : Addr} {m : Str → Option Value} {a1 a2 a3 : Expr} {k : Nat} {tp rp : Pos} {Q : Flow → Shared → Prop} {hb : Heap} {t : Str} {ec : PyData} {tb : Value}
    (h1 : isAttrOf x "code" a1 = true) (h2 : isAttrOf x "value" a2 = true) (h3 : isAttrOf x "errorcode" a3 = true) (hd : (x == Str.ofString "__debug__") = false) (hl : C.sc.names.lookup x = some .local)
    (hn : s.heap.Ns C.L m) (hm : m x = some (.ref e)) (kb : W.B0.StaysIn s.heap) (xo : XObj W.CR hb s.heap e t ec tb)
    (hQ : ∀ h' tk as, (∀ b o, s.heap.get? b = some o → h'.get? b = some o) → h'.Ns C.L m → flat ec = true → Reads h' (.ref s.heap.objs.size) (.tuple [.int 1, .str t, ec]) as → Q (.ret (.ref s.heap.objs.size)) { s with heap := h', toks := tk }) :
    wpAny (model W.prog W.w) A (execs [.Return (some (.Tuple [a1, a2, a3] k tp)) rp] C.env) Q E s := by
  obtain ⟨mA, I, ⟨k1, q1⟩, ⟨k2, q2⟩, v, as, q3, f, r⟩ := xo.inst
  refine wpAny_execs_cons (wpAny_Return_some (wpAny_Tuple_spliced ?_))
  have hs : ∀ a ∈ [a1, a2, a3], isStarred a = false := by
    have key : ∀ {a : Expr} {y : String}, isAttrOf x y a = true → isStarred a = false := fun {a y} h => by cases a <;> first | rfl | (simp [isAttrOf] at h; done)
    intro a ha
    simp only [List.mem_cons, List.not_mem_nil, or_false] at ha
    rcases ha with rfl | rfl | rfl
    · exact key h1
    · exact key h2
    · exact key h3
  rw [starEach_plain hs]
  refine Calls.spliced_cons (attr_read S X h1 hd hl hn hm kb I (by simp [noNames]) lk_code q1 rfl fun t1 => ?_)
  refine Calls.spliced_cons (attr_read (s := { s with toks := t1 }) S X h2 hd hl hn hm kb I (by simp [noNames]) lk_value q2 rfl fun t2 => ?_)
  refine Calls.spliced_cons (attr_read (s := { s with toks := t2 }) S X h3 hd hl hn hm kb I (by simp [noNames]) lk_errorcode q3 (handed_reads r) fun t3 => ?_)
  refine Calls.spliced_nil ⟨by show 3 ≤ sizeLine; rw [sizeLine_eq]; omega, ?_⟩
  have st := stays_push s.heap { cls := .type "tuple", data := .seq [Value.int 1 k1, .str t k2, v].toArray }
  exact hQ _ _ _ st (hn.keeps st) f (.tuple (Heap.get?_push_size _ rfl) rfl rfl (.cons (.int 1 k1) (.cons (.str t k2) (.cons (reads_up (fun b o e => ⟨o.slots, st b o e⟩) r) .nil))))

theorem snd_catch (S : FS W C) (O : WOK W) (X : Cls W) {c x : Str} {b : List Stmt} {cb : List CS} {cp k} {tp rp hp pos : Pos} {a1 a2 a3 : Expr} (hb : SndSs W C n Φ N b cb) (hc : C.sc.names.lookup (Str.ofString "Raised") = some .globalImplicit) (hl : C.sc.names.lookup x = some .local)
    (hd : (x == Str.ofString "__debug__") = false) (h1 : isAttrOf x "code" a1 = true) (h2 : isAttrOf x "value" a2 = true) (h3 : isAttrOf x "errorcode" a3 = true) (hcn : c = Str.ofString "Raised") :
    SndS W C n Φ N (.Try b [.ExceptHandler (some (.Name c cp)) (some x) [.Return (some (.Tuple [a1, a2, a3] k tp)) rp] hp] [] [] pos) (.catch cb) := fun A s σ Q E hA R I p => by
  subst hcn
  rw [r_catch] at p
  refine wpAny_Try_except (hb A s σ _ _ hA R I ?_)
  cases hr : evSs Φ N cb σ with
  | none => rw [hr] at p; exact p
  | some o =>
    rw [hr] at p
    cases o with
    | ok a => cases a with
      | next σ' => exact fun h' tk I' xk => wpAny_execs_nil (p h' tk I' xk)
      | ret tv => exact p
    | exc t ec =>
      intro e h' tk xe
      refine xe_note (s := { s with heap := h', toks := tk }) S hA xe fun h2' x2 y2 => ?_
      refine xe_set (s := { s with heap := h2', toks := tk }) S (f := none) x2 y2 (.inl rfl) fun h3' x3 y3 => ?_
      obtain ⟨hb3, kb3, u3, y3'⟩ := id y3
      have st3 := S.stays x3.grow
      obtain ⟨T, oT, ts, xo, _⟩ := id y3'
      obtain ⟨D, vs, sl, he, _⟩ := xo.at
      refine wpAny_handleBy_cons (codeAny_handlers_test ?_) (by intro q; cases q)
      refine Calls.Name_function_global S.kind hc (Calls.loadGlobal_global (env := C.env) (O.g.keeps st3) X.mg ?_) (by decide +kernel)
      refine wpAny_excMatches_sub_self (st3 _ _ X.hC) he rfl base_exc ?_
      refine codeAny_handlers_suite_as ?_
      refine xe_set (s := { s with heap := h3', toks := tk }) S (f := none) x3 y3 (.inl rfl) fun h4 x4 y4 => ?_
      obtain ⟨m4, n4⟩ := x4.ns
      refine wpAny_storeName_local hl n4 (fun h5 n5 sb5 => ?_) (env_noBlock S)
      have keep5 : ∀ b o, b ≠ C.L → h4.get? b = some o → h5.get? b = some o := fun b o nb e => (sb5.2 b nb).trans e
      have g5 : Grow (frs C.envs) C.h₀ h5 := x4.grow.but keep5 S.new
      obtain ⟨hb4, kb4, u4, T4, oT4, ts4, xo4, e1, e2, e3, e4, e5⟩ := y4
      have nL : ∀ {o : Obj}, h4.get? C.L = some o → ∃ es ep, o.data = .dict es ep := fun {o} e => by
        obtain ⟨o2, es, ep, f1, f2, _⟩ := n4
        rw [f1] at e; injection e with e; subst e; exact ⟨_, _, f2⟩
      have xo5 : XObj W.CR hb4 h5 e t ec (.ref T4) := by
        obtain ⟨D, m, vs, sl, ecv, tk1, tk2, as, a1, a2, a3, a4, a5, a6, a7, a8, a9, a10⟩ := xo4
        refine ⟨D, m, vs, sl, ecv, tk1, tk2, as, keep5 _ _ (fun q => (kb4 _ a3).2 q) a1, a2, a3, a4, ns1_up (fun o ho => ⟨o.slots, keep5 _ _ (fun q => (kb4 _ a4).2 q) ho⟩) a5, a6, a7, a8, a9, reads_tup (fun b o ho _ hd => ⟨o.slots, keep5 _ _ (fun q => ?_) ho⟩) a10 a9⟩
        obtain ⟨es, ep, z⟩ := nL (q ▸ ho)
        obtain ⟨_, _, hd⟩ := hd
        rw [hd] at z; cases z
      refine catch_suite (s := { s with heap := h5, toks := tk + 1 }) S X h1 h2 h3 hd hl n5 (by simp) (S.stays g5) xo5 fun h6 tk6 as6 st6 n6 f6 r6 => ?_
      refine wpAny_nameGoes (s := { s with heap := h6, toks := tk6 }) hl n6 (env_noBlock S) fun h7 m7 n7 sb7 => ?_
      have keep7 : ∀ b o, b ≠ C.L → h6.get? b = some o → h7.get? b = some o := fun b o nb e => (sb7.2 b nb).trans e
      refine p _ h7 _ ((g5.trans (.of_stays st6)).but keep7 S.new) ⟨.inl ?_, as6, ?_⟩
      · show (true && (true && (flat ec && true))) = true
        rw [f6]; rfl
      · have ff : flat (.tuple [.int 1, .str t, ec]) = true := by
          show (true && (true && (flat ec && true))) = true
          rw [f6]; rfl
        refine reads_tup (fun b o ho _ hd => ⟨o.slots, keep7 _ _ (fun q => ?_) ho⟩) r6 ff
        obtain ⟨o2, es, ep, f1, f2, _⟩ := n6
        rw [q, f1] at ho; injection ho with ho; subst ho
        obtain ⟨_, _, hd⟩ := hd
        rw [f2] at hd; cases hd

theorem snd_raise (S : FS W C) (X : Cls W) {e : Expr} {pos : Pos} {c : CE} (i1 : SndE W C n Φ e c) : SndS W C n Φ N (.Raise (some e) none pos) (.raise c) := fun A s σ Q E hA R I p => by
  rw [r_raise] at p
  rw [arm_exec_Raise]
  refine wpAny_bind (wpAny_standAt (raise_own R.hh (C := W.CR) (nm := X.nm) (q := X.q) (N := X.N) (bs := X.bs) (hdct := true) (sn := X.sn) (sub := X.sub) (ab := X.ab) (col := X.col) (dd := X.dd) (k0 := X.k0) (k1 := X.k1) (k2 := X.k2) (k3 := X.k3) (k5 := X.k5) (newId := "Exception.__new__") ?_))
  refine wpAny_bind (i1.then S hA R I (PE.ofS' S I p) fun tv v h' tk q g y I' => wpAny_bind (wpAny_standAt (wpAny_pure ?_)))
  split at q
  · rename_i t ec
    obtain ⟨a, rfl, xo⟩ := y
    obtain ⟨D, vs, sl, e1, e2, _⟩ := xo.at
    refine ⟨a, D, vs, sl, rfl, I'.stays S _ _ X.hC, e1, e2, ?_⟩
    exact q a h' tk (xe_of S I g (.inl xo))
  · exact q.elim
end
end NP
end
section
open PySem PySem.Calls PyProof.Rows PySem.W PySem.Spec
set_option maxRecDepth 100000
namespace NP

section
variable {W : Wd} {C : Fm} {n : Nat} {Φ : Nat → List TV → Option (Out TV)} {N : Nat} {fn : Str → Option Nat}

theorem nd_of {x : Str} (h : C.sc.names.lookup (Str.ofString "__debug__") ≠ some .local) (hl : C.sc.names.lookup x = some .local) : (x == Str.ofString "__debug__") = false := by
  cases q : x == Str.ofString "__debug__" with
  | false => rfl
  | true => exact absurd (eq_of_beq q ▸ hl) h

theorem cSs_all {f : Stmt → Option CS} (ih : ∀ st c, f st = some c → SndS W C n Φ N st c) : ∀ (l : List Stmt) (cs : List CS), cSs f l = some cs → SndSs W C n Φ N l cs
  | [], cs, h => by cases h; exact snd_nil
  | st :: r, cs, h => by
    simp only [cSs, Option.bind_eq_some_iff, Option.map_eq_some_iff] at h
    obtain ⟨c, h1, cs', h2, rfl⟩ := h
    exact snd_cons (ih st c h1) (cSs_all ih r cs' h2)

theorem snd_asg (S : FS W C) {v t : Expr} {k : Nat} {p : Pos} {c : CS} (hp : plainValue v = true) (hE : ∀ e c, cE C.sc C.nm fn k e = some c → SndE W C n Φ e c) (h : cAsg C.nm (cE C.sc C.nm fn k v) v t = some c) : SndS W C n Φ N (.Assign [t] v p) c := by
  unfold cAsg at h
  split at h
  · obtain ⟨i, h1, h⟩ := bind_inv h
    obtain ⟨e, h2, rfl⟩ := map_inv h
    exact snd_assign S (idx_get h1) hp (hE _ _ h2)
  · obtain ⟨hw, h⟩ := ite_inv h
    obtain ⟨is, h1, h⟩ := bind_inv h
    obtain ⟨e, h2, h⟩ := bind_inv h
    obtain ⟨hn, h⟩ := ite_inv h
    cases h
    exact snd_assignT S h1 hp hw hn.1 (hE _ _ h2)
  · cases h
theorem snd_fors (S : FS W C) {t it : Expr} {b : List Stmt} {pos : Pos} {ci : CIt} {cb : List CS} {c : CS} (hi : SndI W C n Φ it ci) (hs : ∀ x, foldedSetIterable it C.env x = pure x) (hb : SndSs W C n Φ N b cb) (h : cFor C.nm t ci cb = some c) : SndS W C n Φ N (.For t it b [] pos) c := by
  unfold cFor at h
  split at h
  · obtain ⟨i, h1, rfl⟩ := map_inv h
    exact cS_for1 S (idx_get h1) hi hs hb
  · obtain ⟨is, h1, h⟩ := bind_inv h
    obtain ⟨_, h⟩ := ite_inv h
    cases h
    exact cS_forT S h1 hi hs hb
  · cases h
theorem bnot_of' {b : Bool} (h : (!b) = true) : b = false := by cases b <;> first | rfl | cases h
theorem snd_do (S : FS W C) {e : Expr} {p : Pos} {k : Nat} {c : CS} (hE : ∀ e c, cE C.sc C.nm fn k e = some c → SndE W C n Φ e c) (h : cDo C.nm (cE C.sc C.nm fn k) e = some c) : SndS W C n Φ N (.Expr e p) c := by
  unfold cDo at h
  split at h
  · rcases or_inv h with ⟨q, h1, h⟩ | h
    · obtain ⟨hp, h⟩ := ite_inv h
      obtain ⟨hp, hd⟩ := bool_and hp
      obtain ⟨hp, hs⟩ := bool_and hp
      obtain ⟨hm, hl⟩ := bool_and hp
      obtain ⟨i, h2, h⟩ := bind_inv h
      obtain ⟨e, h3, rfl⟩ := map_inv h
      obtain ⟨p', rfl, rfl, rfl⟩ := app_inv h1
      rw [eq_of_beq hm]
      exact snd_append S (idx_get h2) (bne_of hd) hl (bnot_of' hs) (hE _ _ h3)
    · obtain ⟨e, h1, rfl⟩ := map_inv h
      exact snd_drop S (hE _ _ h1)
  · cases h

theorem cS_all (S : FS W C) (O : WOK W) (X : Cls W) (H : Calls W fn n Φ) (hdb : C.sc.names.lookup (Str.ofString "__debug__") ≠ some .local) : ∀ (k : Nat) (st : Stmt) (c : CS), cS C.sc C.nm fn k st = some c → SndS W C n Φ N st c := by
  intro k
  induction k with
  | zero => intro st c h; cases h
  | succ k ih =>
    have ihs := cSs_all (N := N) ih
    have hE : ∀ e c, cE C.sc C.nm fn (k + 1) e = some c → SndE W C n Φ e c := fun e c h => (snd_all S O H (k + 1) e c h).1
    have hT : ∀ e c, cE C.sc C.nm fn (k + 1) e = some c → SndT W C n Φ e c := fun e c h => (snd_all S O H (k + 1) e c h).2
    intro st c h
    unfold cS at h
    split at h
    · obtain ⟨hp, h1⟩ := ite_inv h
      obtain ⟨t, h2, h3⟩ := bind_inv h1
      obtain rfl := one_inv h2
      exact snd_asg S hp hE h3
    · obtain ⟨x, h0, h⟩ := bind_inv h
      obtain ⟨i, h1, h⟩ := bind_inv h
      obtain ⟨e, h2, rfl⟩ := map_inv h
      obtain ⟨p, rfl⟩ := idOf_inv h0
      exact snd_aug S (idx_get h1) (hE _ _ h2)
    · obtain ⟨x, h1, h⟩ := bind_inv h
      obtain ⟨y, h2, h⟩ := bind_inv h
      obtain ⟨z, h3, rfl⟩ := map_inv h
      exact snd_if S (hT _ _ h1) (ihs _ _ h2) (ihs _ _ h3)
    · obtain ⟨ho, h⟩ := ite_inv h
      obtain ⟨x, h1, h⟩ := bind_inv h
      obtain ⟨y, h2, rfl⟩ := map_inv h
      obtain rfl := List.isEmpty_iff.mp ho
      exact snd_while S (hT _ _ h1) (ihs _ _ h2)
    · obtain ⟨ho, h⟩ := ite_inv h
      obtain ⟨e, h2, h⟩ := bind_inv h
      obtain ⟨y, h3, h7⟩ := bind_inv h
      obtain rfl := List.isEmpty_iff.mp ho
      exact snd_fors S (snd_it S O H h2).1 (snd_it S O H h2).2 (ihs _ _ h3) h7
    · rename_i v p
      cases v with
      | none => cases h; exact snd_retNone S
      | some v =>
        obtain ⟨e, h1, rfl⟩ := map_inv h
        exact snd_ret S (hE _ _ h1)
    · obtain ⟨hc, h⟩ := ite_inv h
      obtain ⟨v, h1, rfl⟩ := map_inv h
      subst h1
      obtain rfl := isNone_inv hc
      cases q : cE C.sc C.nm fn (k + 1) v with
      | some e => exact snd_raise S X (hE _ _ q)
      | none => exact fun A s σ Q E _ _ _ p => (show False from p).elim
    · exact snd_do S hE h
    · obtain ⟨ho, h⟩ := ite_inv h
      obtain ⟨ho, hf⟩ := bool_and ho
      obtain ⟨q, h1, h⟩ := bind_inv h
      obtain ⟨hp, h⟩ := ite_inv h
      obtain ⟨hp, h3⟩ := bool_and hp
      obtain ⟨hp, h2⟩ := bool_and hp
      obtain ⟨hp, h0⟩ := bool_and hp
      obtain ⟨hg, hl⟩ := bool_and hp
      unfold glb at hg
      obtain ⟨hg, hgl⟩ := bool_and hg
      obtain ⟨hc, _⟩ := bool_and hg
      obtain ⟨b, h4, rfl⟩ := map_inv h
      obtain ⟨hd, h5, h6⟩ := bind_inv h1
      obtain rfl := one_inv h5
      obtain ⟨p1, k', p2, p3, p4, rfl⟩ := hdl1_inv h6
      obtain rfl := List.isEmpty_iff.mp ho
      obtain rfl := List.isEmpty_iff.mp hf
      have hl' := eq_of_beq hl
      have hgl' := eq_of_beq hgl
      rw [eq_of_beq hc] at hgl'
      exact snd_catch S O X (ihs _ _ h4) hgl' hl' (nd_of hdb hl') h0 h2 h3 (eq_of_beq hc)
    · cases h
end
end NP
end
section
open PySem PySem.Calls PyProof.Rows PySem.W PySem.Spec
set_option maxRecDepth 100000
namespace NP

theorem zip_rev_lookup : ∀ (ns : List Str) (vs : List Value) (i : Nat) (x : Str) (v : Value), ns.Nodup → ns[i]? = some x → vs[i]? = some v → (ns.zip vs).reverse.lookup x = some v
  | [], _, _, _, _, _, h, _ => by simp at h
  | _ :: _, [], _, _, _, _, _, h => by simp at h
  | n :: ns, w :: vs, 0, x, v, hn, h1, h2 => by
    simp at h1 h2
    subst h1 h2
    obtain ⟨a, _⟩ := List.nodup_cons.mp hn
    rw [List.zip_cons_cons, List.reverse_cons, List.lookup_append]
    have : (ns.zip vs).reverse.lookup n = none := by
      rw [List.lookup_eq_none_iff]
      intro p hp
      have := (List.of_mem_zip (List.mem_reverse.mp hp)).1
      simp only [bne_iff_ne, ne_eq, beq_eq_false_iff_ne]
      rintro rfl
      exact a this
    rw [this]
    simp [List.lookup_cons]
  | n :: ns, w :: vs, i + 1, x, v, hn, h1, h2 => by
    obtain ⟨_, b⟩ := List.nodup_cons.mp hn
    rw [List.zip_cons_cons, List.reverse_cons, List.lookup_append, zip_rev_lookup ns vs i x v b (by simpa using h1) (by simpa using h2)]
    rfl

noncomputable def isVal : TV → Bool
  | .val _ => true
  | _ => false
theorem sget_start {args : List TV} {k i : Nat} {tv : TV} (h : sget (args.map some ++ List.replicate k none) i = some tv) : args[i]? = some tv := by
  unfold sget at h
  by_cases q : i < args.length
  · rw [List.getElem?_append_left (by simpa using q), List.getElem?_map] at h
    cases r : args[i]? with
    | none => rw [r] at h; cases h
    | some a => rw [r] at h; exact h
  · rw [List.getElem?_append_right (by simpa using q)] at h
    rw [List.getElem?_replicate] at h
    split at h <;> cases h

section
variable {W : Wd} {fn : Str → Option Nat} {n : Nat} {Φ : Nat → List TV → Option (Out TV)} {N : Nat}

theorem call_fn (O : WOK W) (X : Cls W) (H : Calls W fn n Φ) {dr : DefRec} {c : CFn} (hc : compile fn dr = some c) {a : Addr} {o : Obj} {pm cd doc : Value} (ho : W.B0.get? a = some o)
    (hdata : o.data = .func (docDef dr.name dr.params dr.body dr.scope pm cd doc)) (hcd : W.B0.CodeRec cd dr.name) (args : List TV) : CallOK W (n + 1) (.ref a) args (runFn Φ N c args) := by
  intro A envs s vs Q E hA R hB hF hv p
  have hvl := hv.length
  unfold compile at hc
  dsimp only at hc
  split at hc
  rotate_left
  · cases hc
  rename_i hk
  obtain ⟨hk, hdb⟩ := bool_and hk
  obtain ⟨hk, hcell⟩ := bool_and hk
  obtain ⟨hk, hloc⟩ := bool_and hk
  obtain ⟨hk, hnd⟩ := bool_and hk
  obtain ⟨hk, hco⟩ := bool_and hk
  obtain ⟨hk, hge⟩ := bool_and hk
  obtain ⟨hpp, hkd⟩ := bool_and hk
  obtain ⟨b, hbody, rfl⟩ := Option.map_eq_some_iff.mp hc
  have hnd := of_decide_eq_true hnd
  have hloc : ∀ x ∈ namesOf dr.params dr.scope, dr.scope.names.lookup x = some .local := fun x hx => eq_of_beq (List.all_eq_true.mp hloc x hx)
  unfold runFn at p
  split at p
  rotate_left
  · exact p.elim
  rename_i hargs
  obtain ⟨hal, hav⟩ := hargs
  dsimp only at hal p
  have hval : ∀ tv ∈ args, ∃ d, tv = .val d := fun tv htv => by
    have := List.all_eq_true.mp hav tv htv
    cases tv <;> first | exact ⟨_, rfl⟩ | cases this
  have hpl : (dr.params.args.map (·.arg)).length = args.length := by rw [List.length_map, hal]
  have hnodup : (dr.params.args.map (·.arg)).Nodup := (List.nodup_append.mp (show (dr.params.args.map (·.arg) ++ _).Nodup from hnd)).1
  have hmem : ∀ x ∈ dr.params.args.map (·.arg), x ∈ namesOf dr.params dr.scope := fun x hx => List.mem_append_left _ hx
  refine wpAny_call (call_pos (by have := R.depth; show A.depth < 1000; omega) (hB _ _ ho) hdata (let ⟨mc, a, b⟩ := O.nolimit; ⟨mc, a.keeps hB, b⟩) (hcd.keeps hB) (bind_plain hpp (by rw [hvl, hal]) hnodup)
    (fun x hx => hloc _ (hmem _ (List.of_mem_zip hx).1)) (fun h₁ F => ?_) (by cases q : dr.scope.isCoroutine with | false => rfl | true => rw [q] at hco; cases hco) (by cases q : dr.scope.isGenerator with | false => rfl | true => rw [q] at hge; cases hge)
    (eq_of_beq hkd) (fun x hx q => by have := List.all_eq_true.mp hcell x hx; rw [q] at this; exact absurd this (by decide)))
  let C : Fm := ⟨s.heap.objs.size, a, dr.name, dr.scope, cd, s.heap, envs, namesOf dr.params dr.scope⟩
  have S : FS W C := ⟨eq_of_beq hkd, hloc, hnd, hB, hF, Heap.get?_none_of_le (Nat.le_refl _)⟩
  have keep := F.keep
  have up : ∀ b o, s.heap.get? b = some o → ∃ sl, h₁.get? b = some { o with slots := sl } := fun b o e => ⟨o.slots, keep b o e⟩
  have I : FI C h₁ (args.map some ++ List.replicate ((namesOf dr.params dr.scope).length - dr.params.args.length) none) := by
    refine ⟨.of_stays keep, _, F.ns, fun i tv e => ?_, fun i xs e => ?_⟩
    · have e := sget_start e
      obtain ⟨v, e1, e2⟩ := hv.get e
      obtain ⟨d, rfl⟩ := hval tv (List.mem_of_getElem? e)
      have hlt : i < (dr.params.args.map (·.arg)).length := by rw [hpl]; exact (List.getElem?_eq_some_iff.mp e).1
      have ex : (dr.params.args.map (·.arg))[i]? = some ((dr.params.args.map (·.arg))[i]) := List.getElem?_eq_getElem hlt
      refine ⟨(dr.params.args.map (·.arg))[i], v, ?_, zip_rev_lookup _ _ i _ _ hnodup ex e1, e2.up up⟩
      exact (List.getElem?_append_left hlt).trans ex
    · obtain ⟨d, q⟩ := hval _ (List.mem_of_getElem? (sget_start e))
      cases q
  have hss := cSs_all (N := N) (cS_all (n := n) (N := N) S O X H (fun q => by rw [show C.sc = dr.scope from rfl] at q; rw [q] at hdb; exact absurd hdb (by decide)) 40) dr.body b hbody
  have hA' : (A.deeper (envOf dr.name dr.scope s.heap.objs.size a cd)).frames = some (C.env :: C.envs) := by
    show A.frames.map _ = _
    rw [hA]; rfl
  refine hss _ { s with heap := h₁, toks := _ } _ _ _ hA' R.deeper I ?_
  cases hr : evSs Φ N b (args.map some ++ List.replicate ((namesOf dr.params dr.scope).length - dr.params.args.length) none) with
  | none => rw [hr] at p; exact p
  | some r =>
    rw [hr] at p
    cases r with
    | ok so => cases so with
      | next σ' => exact fun h' tk I' _ => p .none h' tk I'.grow tr_none
      | ret tv => exact fun v h' tk g y => p v h' tk g y
    | exc t ec =>
      intro e h' tk xe
      unfold leaving
      refine wpAny_bind (xe_note (s := { s with heap := h', toks := tk }) S hA' xe fun h2 x2 y2 => ?_)
      refine xe_set (s := { s with heap := h2, toks := tk }) S (f := none) x2 y2 (.inl rfl) fun h3 x3 y3 => ?_
      obtain ⟨hb, kb, u, T, oT, ts, xo, e1, e2, e3, e4, e5⟩ := y3
      exact p e h3 tk x3.grow ⟨T, oT, ts, xo.birth fun b q => (kb b q).1, e1, (kb _ e2).1, e3, e4, e5⟩
end
end NP
end
section
open PySem PySem.Calls PyProof.Rows PySem.W PySem.Spec
set_option maxRecDepth 100000
namespace NP
open Builtin Builtin.ObjectAttr in
section
variable {prog : Program} {w : World} {A : Around} {E : Value → Shared → Prop} {h : Heap} {g : Array GenState} {d : Drawn} {t : Nat} {os : OsState}
variable {nm q : Str} {C N x : Addr} {bs : List Value} {sn : List Str} {sub : List Value} {ab : Bool} {col : Option Bool} {dd : Option Addr} {k0 k1 k2 k3 k5 : Option Value} {newId : String}
  {mN mA : Str → Option Value} {name : Str} {v : Value} {vs : Array Value} {sl : Array (Option Value)}

theorem first_entry {sa owner : String} (SF : StoreFacts "Exception" excBm sa owner) {o : Obj} {tk : Tok} {Q : Fin → Shared → Prop}
    (hC : h.get? C = some (excClassObj nm q C N bs excBm true sn sub ab col dd k0 k1 k2 k3 k5 newId)) (hn : h.Ns N mN) (hna : mN name = none)
    (hB : typeLookup (.type "Exception") name = pure none) (hx : h.get? x = some o) (hc : o.cls = .ref C) (hd : o.data = .fields vs) (hdn : o.dict = none)
    (hq : ∀ h' tk', h.get? h.objs.size = none → h'.get? x = some { o with dict := some h.objs.size } → h'.Ns1 h.objs.size (fun y => if y = name then some v else none) → (∀ b o, b ≠ x → h.get? b = some o → h'.get? b = some o) → Q (.done (.ret .none)) ⟨h', g, d, tk', os⟩) :
    wpAny (model prog w) A (Builtin.«object.__setattr__» ⟨[.ref x, .str name tk, v], []⟩) Q E ⟨h, g, d, t, os⟩ := by
  have hpass : refuseLoop (.ref x) "__setattr__" excBm = pure () := SF.passes (.ref x)
  have hm : mroOf (.type "Exception") = pure excBm := SF.mro
  unfold Builtin.«object.__setattr__»
  repeat (first | rw [refuse_eq] | (rw [refuseLoop_ref, hpass]) | (with_reducible refine wpAny_loadPart_at hx ?_; rw [hc]) | with_reducible refine wpAny_mroOf_exc hC ?_ | (with_reducible refine wpAny_typeLookup_exc hC hn hm hB ?_; rw [hna]) | wp_step)
  rw [hdn, if_neg (by simp [typeHasDict])]
  split
  · rename_i hcd
    cases hcd
  split
  · rename_i c hcd
    rw [hd] at hcd; cases hcd
  have hx₁ : (h.push { cls := .type "dict", data := .dict #[] }).get? x = some o := Heap.get?_push_of_some _ hx
  have hxs : x ≠ h.objs.size := Nat.ne_of_lt (Heap.lt_size hx)
  refine wpAny_bind (wpAny_alloc' ?_)
  refine wpAny_bind (wpAny_update' hx₁ ?_)
  refine wpAny_pure ?_
  have hgd : ((h.push { cls := .type "dict", data := .dict #[] }).update x fun o => { cls := o.cls, dict := some h.objs.size, data := o.data, slots := o.slots }).get? h.objs.size
      = some { cls := .type "dict", data := .dict #[] } :=
    (Heap.get?_update_ne _ _ _ _ hxs.symm).trans (Heap.get?_push_at rfl rfl)
  have hnd : ((h.push { cls := .type "dict", data := .dict #[] }).update x fun o => { cls := o.cls, dict := some h.objs.size, data := o.data, slots := o.slots }).Ns h.objs.size (fun _ => none) :=
    ⟨_, #[], _, hgd, rfl, fun e he => absurd he (by simp), fun _ => rfl⟩
  show wpAny _ _ (storeInDict h.objs.size (.str name tk) name v) _ _ _
  unfold storeInDict newKeyGuard
  refine wpAny_bind (wpAny_pure (wpAny_bind (wpAny_nsSet1 (Heap.Ns1.of_empty hnd) fun h' hn' hs => ?_)))
  obtain ⟨oD, esD, epD, hoD, hdD, hcD⟩ := hn'.count (Within.cons name v Within.nil)
  refine wpAny_bind (wpAny_lookBehind hoD (by rw [hdD]; exact pastItsLine_dict (Nat.le_trans hcD (by rw [List.length_cons, List.length_nil, sizeLine_eq]; omega))) ?_)
  refine wpAny_pure (hq h' _ (Heap.get?_none_of_le (Nat.le_refl _)) ?_ hn' fun b ob hbx hb => ?_)
  · refine (hs.2 x hxs).trans (Heap.get?_update_self _ hx₁ ?_)
    obtain ⟨oc, od, odt, osl⟩ := o
    cases hd
    rfl
  · exact (hs.2 b (Nat.ne_of_lt (Heap.lt_size hb))).trans ((Heap.get?_update_ne _ _ _ _ hbx).trans (Heap.get?_push_of_some _ hb))

theorem first_attr {sa owner : String} (SF : StoreFacts "Exception" excBm sa owner) {o : Obj} {Q : Unit → Shared → Prop}
    (hC : h.get? C = some (excClassObj nm q C N bs excBm true sn sub ab col dd k0 k1 k2 k3 k5 newId)) (hn : h.Ns N mN) (hns : mN "__setattr__" = none) (hna : mN name = none)
    (hB : typeLookup (.type "Exception") name = pure none) (hx : h.get? x = some o) (hc : o.cls = .ref C) (hd : o.data = .fields vs) (hdn : o.dict = none)
    (hq : ∀ h' tk', h.get? h.objs.size = none → h'.get? x = some { o with dict := some h.objs.size } → h'.Ns1 h.objs.size (fun y => if y = name then some v else none) → (∀ b o, b ≠ x → h.get? b = some o → h'.get? b = some o) → Q () ⟨h', g, d, tk', os⟩) :
    wpAny (model prog w) A (setAttr (.ref x) name v) Q E ⟨h, g, d, t, os⟩ := by
  have hm : mroOf (.type "Exception") = pure excBm := SF.mro
  have f3 := SF.slot.bind (.ref x)
  unfold setAttr callSpecial? specialOf
  repeat (any_goals (first | assumption | (with_reducible refine wpAny_loadPart_at hx ?_; rw [hc]) | (with_reducible refine wpAny_typeLookup_exc hC hn hm SF.slot.lookup ?_; rw [hns]) | wp_step))
  refine codeAny_call_builtin SF.slot.plain SF.entry ?_
  refine wpAny_check_sa SF hC hx hc ?_
  refine first_entry SF hC hn hna hB hx hc hd hdn fun h' tk' a b c k => ?_
  repeat (any_goals (first | assumption | wp_step))
  exact hq h' tk' a b c k
end
end NP
end
section
open PySem PySem.Calls PyProof.Rows PySem.W PySem.Spec
set_option maxRecDepth 100000
namespace NP

noncomputable def initFdv : FuncData := initFd.getD default
noncomputable def errFdv : FuncData := errFd.getD default
theorem initFd_eq : initFd = some initFdv := by kernel_rfl
theorem errFd_eq : errFd = some errFdv := by kernel_rfl
noncomputable def stmtsOf : FuncBody → List Stmt
  | .stmts b => b
  | _ => []
noncomputable def initBody : List Stmt := stmtsOf initFdv.body
noncomputable def errBody : List Stmt := stmtsOf errFdv.body
theorem init_body : initFdv.body = .stmts initBody := by kernel_rfl
theorem err_body : errFdv.body = .stmts errBody := by kernel_rfl

theorem lk_level : typeLookup (.type "Exception") "level" = pure none := by rw [typeLookup_type, builtinLookup_eq_fast]; kernel_rfl
theorem lk_ret : typeLookup (.type "Exception") "ret" = pure none := by rw [typeLookup_type, builtinLookup_eq_fast]; kernel_rfl
theorem lk_info : typeLookup (.type "Exception") "info" = pure none := by rw [typeLookup_type, builtinLookup_eq_fast]; kernel_rfl
theorem lk_is_noted : typeLookup (.type "Exception") "is_noted" = pure none := by rw [typeLookup_type, builtinLookup_eq_fast]; kernel_rfl
theorem lk_line : typeLookup (.type "Exception") "line" = pure none := by rw [typeLookup_type, builtinLookup_eq_fast]; kernel_rfl
theorem lk_extra : typeLookup (.type "Exception") "extra" = pure none := by rw [typeLookup_type, builtinLookup_eq_fast]; kernel_rfl

noncomputable def upd (m : Str → Option Value) (x : Str) (v : Value) : Str → Option Value := fun y => if y = x then some v else m y

structure SI (CR : Addr) (hs h : Heap) (e : Addr) (mA : Str → Option Value) (od : Option Addr) (ns : List Str) : Prop where
  keep : ∀ b o, b ≠ e → hs.get? b = some o → h.get? b = some o
  at_ : ∃ vs sl t0, h.get? e = some ⟨.ref CR, od, .fields vs, sl⟩ ∧ vs[1]? = some .none ∧ vs[0]? = some (.ref t0)
  dict : ∀ D, od = some D → D ≠ e ∧ hs.get? D = none ∧ h.Ns1 D mA
  nodict : od = none → mA = fun _ => none
  within : Within mA ns
theorem SI.more {CR : Addr} {hs h h' : Heap} {e : Addr} {mA : Str → Option Value} {od : Option Addr} {ns : List Str} (x : SI CR hs h e mA od ns) (k : ∀ b o, h.get? b = some o → h'.get? b = some o) : SI CR hs h' e mA od ns :=
  ⟨fun b o n q => k b o (x.keep b o n q), let ⟨vs, sl, t, a, b⟩ := x.at_; ⟨vs, sl, t, k _ _ a, b⟩, fun D q => let ⟨a, b, c⟩ := x.dict D q; ⟨a, b, c.keeps k⟩, x.nodict, x.within⟩

section
variable {W : Wd} {A : Around} {s : Shared} {E : Value → Shared → Prop} {hs : Heap} {e : Addr} {mA : Str → Option Value} {ns : List Str}

theorem set_first (X : Cls W) (hB : W.B0.StaysIn hs) (ne : W.B0.get? e = none) {od : Option Addr} (I : SI W.CR hs s.heap e mA od ns) (h0 : od = none) {y : String} {v : Value} {Q : Unit → Shared → Prop} (hno : y ∈ noNames) (hL : typeLookup (.type "Exception") (Str.ofString y) = pure none)
    (h : ∀ h' tk D, SI W.CR hs h' e (upd mA (Str.ofString y) v) (some D) (Str.ofString y :: ns) → Q () { s with heap := h', toks := tk }) : wpAny (model W.prog W.w) A (setAttr (.ref e) (Str.ofString y) v) Q E s := by
  subst h0
  obtain ⟨vs, sl, t0, a1, a2, a3⟩ := I.at_
  have kb : W.B0.StaysIn s.heap := fun b o q => I.keep b o (fun r => by rw [r, ne] at q; cases q) (hB b o q)
  obtain ⟨hp, g, d, tk, os⟩ := s
  refine first_attr F.store_Exception (kb _ _ X.hC) (X.hn.keeps kb) (X.no _ (by simp [noNames])) (X.no _ hno) hL a1 rfl rfl rfl fun h' tk' b1 b2 b3 b4 => h h' tk' hp.objs.size ?_
  have nDe : hp.objs.size ≠ e := fun q => by rw [q, a1] at b1; cases b1
  have hD : hs.get? hp.objs.size = none := by
    cases q : hs.get? hp.objs.size with
    | none => rfl
    | some o => have := I.keep _ _ nDe q; rw [b1] at this; cases this
  have hm := I.nodict rfl
  refine ⟨fun b o n q => b4 b o n (I.keep b o n q), ⟨vs, sl, t0, b2, a2, a3⟩, fun D q => ?_, fun q => (nomatch q), Within.cons _ v I.within⟩
  cases q
  refine ⟨nDe, hD, ?_⟩
  rw [hm]
  exact b3
theorem set_next (X : Cls W) (hB : W.B0.StaysIn hs) (ne : W.B0.get? e = none) {D : Addr} (I : SI W.CR hs s.heap e mA (some D) ns) {y : String} {v : Value} {Q : Unit → Shared → Prop} (hno : y ∈ noNames) (hL : typeLookup (.type "Exception") (Str.ofString y) = pure none) (hz : ns.length ≤ 100)
    (h : ∀ h' tk, SI W.CR hs h' e (upd mA (Str.ofString y) v) (some D) (Str.ofString y :: ns) → Q () { s with heap := h', toks := tk }) : wpAny (model W.prog W.w) A (setAttr (.ref e) (Str.ofString y) v) Q E s := by
  obtain ⟨vs, sl, t0, a1, a2, a3⟩ := I.at_
  obtain ⟨d1, d2, d3⟩ := I.dict D rfl
  have kb : W.B0.StaysIn s.heap := fun b o q => I.keep b o (fun r => by rw [r, ne] at q; cases q) (hB b o q)
  have neC : e ≠ W.CR := fun q => by rw [q, X.hC] at ne; cases ne
  obtain ⟨hp, g, d, tk, os⟩ := s
  refine store_attr F.store_Exception (kb _ _ X.hC) (X.hn.keeps kb) (X.no _ (by simp [noNames])) (X.no _ hno) hL neC ⟨_, a1, rfl, fun c q => (nomatch q), .inr ⟨D, rfl, d1, d3⟩⟩ (fun h' tk' i1 i2 i3 => h h' tk' ?_) I.within (by rw [sizeLine_eq]; omega)
  obtain ⟨o1, e1, e2, e3, e4, e5⟩ := i3 _ a1
  have e6 := e5 D rfl
  obtain ⟨oc, od, odt, osl⟩ := o1
  dsimp only at e2 e3 e4 e6
  subst e2 e3 e4 e6
  refine ⟨fun b o n q => i2 b o n (fun o₀ dx r r2 => ?_) (I.keep b o n q), ⟨vs, _, t0, e1, a2, a3⟩, fun D' q => ?_, fun q => (nomatch q), Within.cons _ v I.within⟩
  · rw [a1] at r; injection r with r; subst r
    injection r2 with r2; subst r2
    intro r; rw [r, d2] at q; cases q
  · cases q
    obtain ⟨o2, f1, _, _, f2⟩ := i1
    rw [e1] at f1; injection f1 with f1; subst f1
    rcases f2 with ⟨f2, _⟩ | ⟨d', f2, _, f3⟩
    · cases f2
    · injection f2 with f2; subst f2; exact ⟨d1, d2, f3⟩
end
end NP
end
section
open PySem PySem.Calls PyProof.Rows PySem.W PySem.Spec
set_option maxRecDepth 100000
namespace NP

section
variable {W : Wd} {A : Around} {s : Shared} {E : Value → Shared → Prop} {hs : Heap} {e : Addr} {mA : Str → Option Value} {ns : List Str} {od : Option Addr}

theorem base_init {B initId : String} (F : ExcBaseFacts B "Exception.__new__" initId excBm) (X : Cls W) (hB : W.B0.StaysIn hs) (ne : W.B0.get? e = none) (I : SI W.CR hs s.heap e mA od ns) {v : Value} {Q : Value → Shared → Prop}
    (h : ∀ h', SI W.CR hs h' e mA od ns → Q .none { s with heap := h' }) : wpAny (model W.prog W.w) A (call (.builtin initId) [.ref e, v]) Q E s := by
  obtain ⟨vs, sl, t0, a1, a2, a3⟩ := I.at_
  have kb : W.B0.StaysIn s.heap := fun b o q => I.keep b o (fun r => by rw [r, ne] at q; cases q) (hB b o q)
  obtain ⟨hp, g, d, tk, os⟩ := s
  refine wpAny_call (codeAny_call_builtin F.init.plain F.initEntry (wpAny_check_init_sub F (kb _ _ X.hC) a1 rfl ?_))
  unfold Builtin.«BaseException.__init__»
  dsimp only
  rw [if_neg (by simp)]
  unfold newTuple Builtin.BaseException.bexcPut
  have hsz : 0 < vs.size := (Array.getElem?_eq_some_iff.mp a3).1
  have he₁ := Heap.get?_push_of_some (h := hp) { cls := .type "tuple", data := .seq [v].toArray } a1
  refine wpAny_bind (wpAny_newObj_type (wpAny_bind (wpAny_bind (wpAny_field he₁ rfl a3 (wpAny_bind (wpAny_setField he₁ rfl hsz ?_))))) (by show [v].toArray.size ≤ sizeLine; rw [sizeLine_eq]; simp))
  refine wpAny_letGo (wpAny_pure (h _ ?_))
  have other : ∀ b o, b ≠ e → hp.get? b = some o → ((hp.push { cls := .type "tuple", data := .seq [v].toArray }).update e (Obj.mapFields (·.setIfInBounds 0 (.ref hp.objs.size)))).get? b = some o := fun b o n q => by
    rw [Heap.get?_update_other _ _ (Ne.symm n)]
    exact Heap.get?_push_of_some _ q
  refine ⟨fun b o n q => other b o n (I.keep b o n q), ⟨_, _, hp.objs.size, Heap.get?_update_self _ he₁ rfl, by simpa using a2, by simp [hsz]⟩, fun D q => ?_, I.nodict, I.within⟩
  obtain ⟨b1, b2, b3⟩ := I.dict D q
  exact ⟨b1, b2, b3.at fun o r => other D o b1 r⟩

theorem fr_any (h : Heap) (m : Str → Option Value) {L : Addr} (n : h.Ns L m) : Fr { objs := #[] } L h m := ⟨n, fun b o q => by simp [Heap.get?] at q, Nat.zero_le _⟩

theorem find_init : findCls [] (.type "Exception") (.type "type") (Str.ofString "__init__") = some (.val (.builtin "Exception.__init__")) := by kernel_rfl
theorem nd_exc : (Str.ofString "Exception" == Str.ofString "__debug__") = false := by decide +kernel
theorem nd_self : (Str.ofString "self" == Str.ofString "__debug__") = false := by decide +kernel
theorem nd_value : (Str.ofString "value" == Str.ofString "__debug__") = false := by decide +kernel

variable {env : Env} {m : Str → Option Value}

theorem init_call (O : WOK W) (X : Cls W) (hEx : W.mg (Str.ofString "Exception") = none) (hB : W.B0.StaysIn hs) (ne : W.B0.get? e = none) (I : SI W.CR hs s.heap e mA od ns) {v : Value} (hk : env.scope.kind = .function) (hint : interactive env = false)
    (hx : env.scope.names.lookup (Str.ofString "Exception") = some .globalImplicit) (hgl : env.globals = mainGlobals) (hbl : env.builtins = builtinsNs) (l1 : env.kindOf (Str.ofString "self") = some .local) (l2 : env.kindOf (Str.ofString "value") = some .local)
    (hn : s.heap.Ns env.locals m) (m1 : m (Str.ofString "self") = some (.ref e)) (m2 : m (Str.ofString "value") = some v) {p1 p2 p3 p4 p5 p6 : Pos} (hl : (p2.endLine == p5.line) = true) {Q : Flow → Shared → Prop}
    (h : ∀ h' tk, SI W.CR hs h' e mA od ns → Q .next { s with heap := h', toks := tk }) :
    wpAny (model W.prog W.w) A (exec (.Expr (.Call (.Attribute (.Name (Str.ofString "Exception") p1) (Str.ofString "__init__") p2) [.Name (Str.ofString "self") p3, .Name (Str.ofString "value") p4] [] p5) p6) env) Q E s := by
  have kb : W.B0.StaysIn s.heap := fun b o q => I.keep b o (fun r => by rw [r, ne] at q; cases q) (hB b o q)
  have hb : W.mb (Str.ofString "Exception") = some (.type "Exception") := (O.blt _ (ne_name _ (by decide +kernel))).trans Boot.«Exception»
  have hg' : s.heap.Ns env.globals W.mg := by rw [hgl]; exact O.g.keeps kb
  have hb' : s.heap.Ns env.builtins W.mb := by rw [hbl]; exact O.b.keeps kb
  refine wpAny_Expr ?_ hint rfl
  rw [arm_eval_Call]
  show wpAny _ _ (eval (.Name (Str.ofString "Exception") p1) env >>= _) _ _ _
  refine wpAny_bind (Calls.Name_function_global hk hx (Calls.loadGlobal_builtin (env := env) hg' hEx hb' hb ?_) nd_exc)
  refine wpAny_bind (wpAny_standAt ?_)
  unfold methodCall
  have hstar : backTo p5 (starEach [.Name (Str.ofString "self") p3, .Name (Str.ofString "value") p4] env) = [(false, eval (.Name (Str.ofString "self") p3) env), (false, eval (.Name (Str.ofString "value") p4) env)] := starEach_plain (by intro e he; rcases List.mem_cons.mp he with rfl | he; rfl; rcases List.mem_cons.mp he with rfl | he; rfl; cases he)
  rw [hstar]
  have hpos : methodCallPos true (.Name (Str.ofString "Exception") p1) env p2 p5 = pure p5 := by unfold methodCallPos; simp [hl]
  have hform : methodCallForm ([Expr.Name (Str.ofString "self") p3, .Name (Str.ofString "value") p4].length + ([] : List Keyword).length) [(false, eval (.Name (Str.ofString "self") p3) env), (false, eval (.Name (Str.ofString "value") p4) env)] (backToKw p5 (keywordEach [] env)) = true := by
    show ((_ && _) && decide _) = true
    rfl
  rw [hform]
  refine wpAny_bind (wpAny_holding (method_type (fr_any _ _ hn) (K := []) (h₀ := { objs := #[] }) (fun a o q => by cases q) (by kernel_rfl) (by decide +kernel) find_init (by decide +kernel) ?_))
  refine wpAny_bind (wpAny_of_eq hpos ?_)
  refine Calls.callWith_builtin rfl (Calls.evalArgs_plain (Calls.spliced_cons (wpAny_Name (wpAny_loadName_local hk l1 hn m1 (Calls.spliced_cons (wpAny_Name (wpAny_loadName_local hk l2 hn m2 (Calls.spliced_nil ?_)) nd_value))) nd_self)))
  exact base_init (s := { s with toks := s.toks + 1 }) F.excBase_Exception X hB ne I fun h' I' => h h' _ I'

theorem attr_stmt {vx : Expr} {y : String} {q r u : Pos} {v : Value} {Q : Flow → Shared → Prop} (hk : env.scope.kind = .function) (l1 : env.kindOf (Str.ofString "self") = some .local) (hn : s.heap.Ns env.locals m) (m1 : m (Str.ofString "self") = some (.ref e)) {h₁ : Heap} {tk₁ : Nat}
    (hv : ∀ Q' : Value → Shared → Prop, Q' v { s with heap := h₁, toks := tk₁ } → wpAny (model W.prog W.w) A (eval vx env) Q' E s) (k : ∀ b o, s.heap.get? b = some o → h₁.get? b = some o) (hs0 : swapsWith vx (some (.Attribute (.Name (Str.ofString "self") q) (Str.ofString y) r)) u.line env = pure false)
    (h : wpAny (model W.prog W.w) A (setAttr (.ref e) (Str.ofString y) v) (fun _ => Q .next) E { s with heap := h₁, toks := tk₁ }) :
    wpAny (model W.prog W.w) A (exec (.Assign [.Attribute (.Name (Str.ofString "self") q) (Str.ofString y) r] vx u) env) Q E s :=
  plainObj_wpAny_Assign_Attribute (hv _ (wpAny_Name (wpAny_loadName_local hk l1 (hn.keeps k) m1 h) nd_self)) hs0
end
end NP
end
section
open PySem PySem.Calls PyProof.Rows PySem.W PySem.Spec
set_option maxRecDepth 100000
namespace NP

section
variable {W : Wd} {A : Around} {s : Shared} {E : Value → Shared → Prop}

noncomputable def initBinds (v0 v1 v2 v3 : Value) : List (Str × Value) := [(Str.ofString "self", v0), (Str.ofString "code", v1), (Str.ofString "value", v2), (Str.ofString "errorcode", v3), (Str.ofString "level", .int 0 247), (Str.ofString "ret", .int 0 248)]
theorem init_binds {v0 v1 v2 v3 : Value} (t55 : s.heap.get? 55 = some (tupObj #[.ref 54, .int 0 247, .int 0 248])) : BindsTo s initFdv ⟨[v0, v1, v2, v3], []⟩ (initBinds v0 v1 v2 v3) := fun M A E Q hq => by
  show wpAny M A (seqItems? (.ref 55) >>= _) Q E s
  refine wpAny_bind (wpAny_seqItems t55 rfl ?_)
  show wpAny M A (pure _) Q E s
  exact wpAny_pure hq
noncomputable def errBinds (v0 v1 : Value) : List (Str × Value) := [(Str.ofString "text", v0), (Str.ofString "errorcode", v1)]
theorem err_binds1 {v0 : Value} (t70 : s.heap.get? 70 = some (tupObj #[.ref 69])) : BindsTo s errFdv ⟨[v0], []⟩ (errBinds v0 (.ref 69)) := fun M A E Q hq => by
  show wpAny M A (seqItems? (.ref 70) >>= _) Q E s
  refine wpAny_bind (wpAny_seqItems t70 rfl ?_)
  show wpAny M A (pure _) Q E s
  exact wpAny_pure hq
theorem err_binds2 {v0 v1 : Value} (t70 : s.heap.get? 70 = some (tupObj #[.ref 69])) : BindsTo s errFdv ⟨[v0, v1], []⟩ (errBinds v0 v1) := fun M A E Q hq => by
  show wpAny M A (seqItems? (.ref 70) >>= _) Q E s
  refine wpAny_bind (wpAny_seqItems t70 rfl ?_)
  show wpAny M A (pure _) Q E s
  exact wpAny_pure hq

noncomputable def initEnv (L : Addr) : Env := callEnv initFdv L 62
theorem ie_kind (L : Addr) : (initEnv L).scope.kind = .function := by kernel_rfl
theorem ie_int (L : Addr) : interactive (initEnv L) = false := by kernel_rfl
theorem ie_exc (L : Addr) : (initEnv L).scope.names.lookup (Str.ofString "Exception") = some .globalImplicit := by kernel_rfl
theorem ie_gl (L : Addr) : (initEnv L).globals = mainGlobals := by kernel_rfl
theorem ie_bl (L : Addr) : (initEnv L).builtins = builtinsNs := by kernel_rfl
theorem ie_L (L : Addr) : (initEnv L).locals = L := by kernel_rfl
theorem ie_self (L : Addr) : (initEnv L).kindOf (Str.ofString "self") = some .local := by kernel_rfl
theorem ie_code (L : Addr) : (initEnv L).kindOf (Str.ofString "code") = some .local := by kernel_rfl
theorem ie_value (L : Addr) : (initEnv L).kindOf (Str.ofString "value") = some .local := by kernel_rfl
theorem ie_errorcode (L : Addr) : (initEnv L).kindOf (Str.ofString "errorcode") = some .local := by kernel_rfl
theorem ie_level (L : Addr) : (initEnv L).kindOf (Str.ofString "level") = some .local := by kernel_rfl
theorem ie_ret (L : Addr) : (initEnv L).kindOf (Str.ofString "ret") = some .local := by kernel_rfl
theorem nd_code : (Str.ofString "code" == Str.ofString "__debug__") = false := by decide +kernel
theorem nd_errorcode : (Str.ofString "errorcode" == Str.ofString "__debug__") = false := by decide +kernel
theorem nd_level : (Str.ofString "level" == Str.ofString "__debug__") = false := by decide +kernel
theorem nd_ret : (Str.ofString "ret" == Str.ofString "__debug__") = false := by decide +kernel

noncomputable def filled (v1 v2 v3 v4 : Value) (t1 t2 : Tok) : Str → Option Value := upd (upd (upd (upd (upd (upd (upd (upd (upd (fun _ => none) (Str.ofString "code") v1) (Str.ofString "value") v2) (Str.ofString "errorcode") v3) (Str.ofString "level") (.int 0 247)) (Str.ofString "ret") (.int 0 248)) (Str.ofString "info") (.str Str.empty t1)) (Str.ofString "is_noted") (.bool false)) (Str.ofString "line") (.int 0 t2)) (Str.ofString "extra") v4
theorem filled_code (v1 v2 v3 v4 : Value) (t1 t2 : Tok) : filled v1 v2 v3 v4 t1 t2 (Str.ofString "code") = some v1 := by kernel_rfl
theorem filled_value (v1 v2 v3 v4 : Value) (t1 t2 : Tok) : filled v1 v2 v3 v4 t1 t2 (Str.ofString "value") = some v2 := by kernel_rfl
theorem filled_errorcode (v1 v2 v3 v4 : Value) (t1 t2 : Tok) : filled v1 v2 v3 v4 t1 t2 (Str.ofString "errorcode") = some v3 := by kernel_rfl

theorem init_run (O : WOK W) (X : Cls W) (hEx : W.mg (Str.ofString "Exception") = none) {hs : Heap} (hB : W.B0.StaysIn hs) {e : Addr} (ne : W.B0.get? e = none) {L : Addr} {v1 v2 v3 : Value} (hn : hs.Ns L (fun x => (initBinds (.ref e) v1 v2 v3).reverse.lookup x)) (neL : L ≠ e)
    (he : ∃ vs sl t0, hs.get? e = some ⟨.ref W.CR, none, .fields vs, sl⟩ ∧ vs[1]? = some .none ∧ vs[0]? = some (.ref t0)) {Q : Flow → Shared → Prop} (h0 : s.heap = hs)
    (h : ∀ h' tk D v4 t1 t2 ns, SI W.CR hs h' e (filled v1 v2 v3 v4 t1 t2) (some D) ns → Q .next { s with heap := h', toks := tk }) :
    wpAny (model W.prog W.w) A (execs initBody (initEnv L)) Q E s := by
  have hk := ie_kind L
  have I0 : SI W.CR hs s.heap e (fun _ => none) none [] := by
    rw [h0]
    exact ⟨fun b o _ q => q, he, fun D q => (nomatch q), fun _ => rfl, Within.nil⟩
  have keepL : ∀ {h' : Heap} {mA : Str → Option Value} {od : Option Addr} {ns : List Str}, SI W.CR hs h' e mA od ns → h'.Ns (initEnv L).locals (fun x => (initBinds (.ref e) v1 v2 v3).reverse.lookup x) := fun {h' mA od ns} I => by
    rw [ie_L]
    obtain ⟨o, es, ep, a, b⟩ := hn
    exact ⟨o, es, ep, I.keep _ _ neL a, b⟩
  have m0 : (initBinds (.ref e) v1 v2 v3).reverse.lookup (Str.ofString "self") = some (.ref e) := by kernel_rfl
  have m1 : (initBinds (.ref e) v1 v2 v3).reverse.lookup (Str.ofString "code") = some v1 := by kernel_rfl
  have m2 : (initBinds (.ref e) v1 v2 v3).reverse.lookup (Str.ofString "value") = some v2 := by kernel_rfl
  have m3 : (initBinds (.ref e) v1 v2 v3).reverse.lookup (Str.ofString "errorcode") = some v3 := by kernel_rfl
  have m4 : (initBinds (.ref e) v1 v2 v3).reverse.lookup (Str.ofString "level") = some (.int 0 247) := by kernel_rfl
  have m5 : (initBinds (.ref e) v1 v2 v3).reverse.lookup (Str.ofString "ret") = some (.int 0 248) := by kernel_rfl
  have stays : ∀ h : Heap, ∀ b o, h.get? b = some o → h.get? b = some o := fun _ _ _ q => q
  show wpAny _ _ (execs [.Expr (.Call (.Attribute (.Name (Str.ofString "Exception") _) (Str.ofString "__init__") _) [.Name (Str.ofString "self") _, .Name (Str.ofString "value") _] [] _) _,
    .Assign [.Attribute (.Name (Str.ofString "self") _) (Str.ofString "code") _] (.Name (Str.ofString "code") _) _,
    .Assign [.Attribute (.Name (Str.ofString "self") _) (Str.ofString "value") _] (.Name (Str.ofString "value") _) _,
    .Assign [.Attribute (.Name (Str.ofString "self") _) (Str.ofString "errorcode") _] (.Name (Str.ofString "errorcode") _) _,
    .Assign [.Attribute (.Name (Str.ofString "self") _) (Str.ofString "level") _] (.Name (Str.ofString "level") _) _,
    .Assign [.Attribute (.Name (Str.ofString "self") _) (Str.ofString "ret") _] (.Name (Str.ofString "ret") _) _,
    .Assign [.Attribute (.Name (Str.ofString "self") _) (Str.ofString "info") _] (.Constant (.str _) _ _) _,
    .Assign [.Attribute (.Name (Str.ofString "self") _) (Str.ofString "is_noted") _] (.Constant (.bool false) _ _) _,
    .Assign [.Attribute (.Name (Str.ofString "self") _) (Str.ofString "line") _] (.Constant (.int 0) _ _) _,
    .Assign [.Attribute (.Name (Str.ofString "self") _) (Str.ofString "extra") _] (.List [] _) _] (initEnv L)) Q E s
  refine wpAny_execs_cons (init_call O X hEx hB ne I0 hk (ie_int L) (ie_exc L) (ie_gl L) (ie_bl L) (ie_self L) (ie_value L) (keepL I0) m0 m2 (by kernel_rfl) fun h1 tk1 I1 => ?_)
  refine wpAny_execs_cons (attr_stmt (s := { s with heap := h1, toks := tk1 }) hk (ie_self L) (keepL I1) m0 (fun Q' q => wpAny_Name (wpAny_loadName_local hk (ie_code L) (keepL I1) m1 q) nd_code) (stays _) rfl ?_)
  refine set_first (s := { s with heap := h1, toks := tk1 }) X hB ne I1 rfl (by simp [noNames]) lk_code fun h2 tk2 D I2 => ?_
  refine wpAny_execs_cons (attr_stmt (s := { s with heap := h2, toks := tk2 }) hk (ie_self L) (keepL I2) m0 (fun Q' q => wpAny_Name (wpAny_loadName_local hk (ie_value L) (keepL I2) m2 q) nd_value) (stays _) rfl ?_)
  refine set_next (s := { s with heap := h2, toks := tk2 }) X hB ne I2 (by simp [noNames]) lk_value (by simp) fun h3 tk3 I3 => ?_
  refine wpAny_execs_cons (attr_stmt (s := { s with heap := h3, toks := tk3 }) hk (ie_self L) (keepL I3) m0 (fun Q' q => wpAny_Name (wpAny_loadName_local hk (ie_errorcode L) (keepL I3) m3 q) nd_errorcode) (stays _) rfl ?_)
  refine set_next (s := { s with heap := h3, toks := tk3 }) X hB ne I3 (by simp [noNames]) lk_errorcode (by simp) fun h4 tk4 I4 => ?_
  refine wpAny_execs_cons (attr_stmt (s := { s with heap := h4, toks := tk4 }) hk (ie_self L) (keepL I4) m0 (fun Q' q => wpAny_Name (wpAny_loadName_local hk (ie_level L) (keepL I4) m4 q) nd_level) (stays _) rfl ?_)
  refine set_next (s := { s with heap := h4, toks := tk4 }) X hB ne I4 (by simp [noNames]) lk_level (by simp) fun h5 tk5 I5 => ?_
  refine wpAny_execs_cons (attr_stmt (s := { s with heap := h5, toks := tk5 }) hk (ie_self L) (keepL I5) m0 (fun Q' q => wpAny_Name (wpAny_loadName_local hk (ie_ret L) (keepL I5) m5 q) nd_ret) (stays _) rfl ?_)
  refine set_next (s := { s with heap := h5, toks := tk5 }) X hB ne I5 (by simp [noNames]) lk_ret (by simp) fun h6 tk6 I6 => ?_
  refine wpAny_execs_cons (attr_stmt (s := { s with heap := h6, toks := tk6 }) (h₁ := h6) (tk₁ := tk6 + 1) (v := .str Str.empty tk6) hk (ie_self L) (keepL I6) m0 (fun Q' q => wpAny_Constant_str q) (stays _) rfl ?_)
  refine set_next (s := { s with heap := h6, toks := tk6 + 1 }) X hB ne I6 (by simp [noNames]) lk_info (by simp) fun h7 tk7 I7 => ?_
  refine wpAny_execs_cons (attr_stmt (s := { s with heap := h7, toks := tk7 }) (h₁ := h7) (tk₁ := tk7) hk (ie_self L) (keepL I7) m0 (fun Q' q => wpAny_Constant_bool q) (stays _) rfl ?_)
  refine set_next (s := { s with heap := h7, toks := tk7 }) X hB ne I7 (by simp [noNames]) lk_is_noted (by simp) fun h8 tk8 I8 => ?_
  refine wpAny_execs_cons (attr_stmt (s := { s with heap := h8, toks := tk8 }) (h₁ := h8) (tk₁ := tk8 + 1) hk (ie_self L) (keepL I8) m0 (fun Q' q => wpAny_Constant_int q) (stays _) rfl ?_)
  refine set_next (s := { s with heap := h8, toks := tk8 + 1 }) X hB ne I8 (by simp [noNames]) lk_line (by simp) fun h9 tk9 I9 => ?_
  refine wpAny_execs_cons (attr_stmt (s := { s with heap := h9, toks := tk9 }) (h₁ := h9.push { cls := .type "list", data := .seq ([] : List Value).toArray }) (tk₁ := tk9) (v := .ref h9.objs.size) hk (ie_self L) (keepL I9) m0 (fun Q' q => wpAny_List_spliced (Calls.spliced_nil ⟨Nat.zero_le _, q⟩)) (stays_push _ _) rfl ?_)
  refine set_next (s := { s with heap := h9.push _, toks := tk9 }) X hB ne (I9.more (stays_push _ _)) (by simp [noNames]) lk_extra (by simp) fun h10 tk10 I10 => ?_
  exact wpAny_execs_nil (h h10 tk10 D _ _ _ _ I10)
end
end NP
end
section
open PySem PySem.Calls PyProof.Rows PySem.W PySem.Spec
set_option maxRecDepth 100000
namespace NP

section
variable {W : Wd} {A : Around} {s : Shared} {E : Value → Shared → Prop}

theorem noL {h : Heap} (O : WOK W) (hB : W.B0.StaysIn h) : h.NoLimit := let ⟨mc, a, b⟩ := O.nolimit; ⟨mc, a.keeps hB, b⟩

structure Made (W : Wd) (hb h : Heap) (e : Addr) (v2 v3 : Value) : Prop where
  keep : ∀ b o, hb.get? b = some o → h.get? b = some o
  new : hb.get? e = none
  obj : ∃ D m vs sl k, h.get? e = some ⟨.ref W.CR, some D, .fields vs, sl⟩ ∧ vs[1]? = some .none ∧ hb.get? D = none ∧ h.Ns1 D m ∧ m (Str.ofString "code") = some (.int 1 k) ∧ m (Str.ofString "value") = some v2 ∧ m (Str.ofString "errorcode") = some v3

theorem init_made (O : WOK W) (X : Cls W) (hk : HK W.B0) (hEx : W.mg (Str.ofString "Exception") = none) {hb : Heap} {e : Addr} {k : Tok} {v2 v3 : Value} (hB : W.B0.StaysIn hb) (hm : Heap.MadeExcOf hb s.heap e (.ref W.CR) [.int 1 k, v2, v3]) (hd : A.depth < 990)
    {Q : Value → Shared → Prop} (h : ∀ h' tk, Made W hb h' e v2 v3 → Q .none { s with heap := h', toks := tk }) :
    wpAny (model W.prog W.w) A (call (.ref 62) [.ref e, .int 1 k, v2, v3]) Q E s := by
  have kB : W.B0.StaysIn s.heap := fun b o q => hm.keeps b o (hB b o q)
  have ne : W.B0.get? e = none := by
    cases q : W.B0.get? e with
    | none => rfl
    | some o => have := hB _ _ q; rw [hm.new] at this; cases this
  obtain ⟨o, a1, a2, a3⟩ := hk.ini
  have hdata : o.data = .func initFdv := by
    rw [initFd_eq] at a3
    unfold fdOf at a3
    split at a3
    · rename_i fd q; cases a3; exact q
    · cases a3
  obtain ⟨t, b1, b2, b3⟩ := hm.there
  refine wpAny_call (codeAny_call_def (by show A.depth < 1000; omega) (kB _ _ a1) hdata (noL O kB) ?_ init_body (init_binds (kB _ _ hk.t55)) ?_ ?_ (fun h₀ hn keep => ?_) (by kernel_rfl) (by kernel_rfl) (by kernel_rfl))
  · exact hk.k61.keeps kB
  · exact fun x hx q => by
      have : initFdv.scope.names.all (fun x => x.2 != .cell) = true := by kernel_rfl
      have := List.all_eq_true.mp this x hx
      rw [q] at this
      exact absurd this (by decide)
  · intro x hx
    have : ∀ v0 v1 v2 v3, (initBinds v0 v1 v2 v3).map (·.1) = (initBinds .none .none .none .none).map (·.1) := fun _ _ _ _ => rfl
    have hx' : x.1 ∈ (initBinds .none .none .none .none).map (·.1) := by rw [← this (.ref e) (.int 1 k) v2 v3]; exact List.mem_map_of_mem hx
    have key : ((initBinds .none .none .none .none).map (·.1)).all (fun x => initFdv.scope.names.lookup x == some .local) = true := by kernel_rfl
    exact eq_of_beq (List.all_eq_true.mp key _ hx')
  · have hB0 : W.B0.StaysIn h₀ := fun b o q => keep b o (kB b o q)
    have neL : s.heap.objs.size ≠ e := Nat.ne_of_gt (Heap.lt_size b1)
    refine init_run (s := { s with heap := h₀, toks := _ }) O X hEx hB0 ne hn neL ⟨_, _, t, keep _ _ b1, rfl, rfl⟩ rfl fun h' tk D v4 t1 t2 ns I => ?_
    refine h h' tk ⟨fun b o q => I.keep b o (fun r => by rw [r, hm.new] at q; cases q) (keep _ _ (hm.keeps _ _ q)), hm.new, ?_⟩
    obtain ⟨vs, sl, t0, c1, c2, c3⟩ := I.at_
    obtain ⟨d1, d2, d3⟩ := I.dict D rfl
    refine ⟨D, _, vs, sl, k, c1, c2, ?_, d3, filled_code .., filled_value .., filled_errorcode ..⟩
    cases q : hb.get? D with
    | none => rfl
    | some o => have := keep _ _ (hm.keeps _ _ q); rw [d2] at this; cases this

theorem callWith_cls (X : Cls W) {pos : Pos} {trees : List (Bool × Sem Value)} {Q : Value → Shared → Prop} (hplain : trees.any (·.1) = false)
    (h : wpAny (model W.prog W.w) A (evalArgs (.ref W.CR) true trees []) (fun a s₂ => a.kw = [] ∧ W.B0.StaysIn s₂.heap ∧ wpAny (model W.prog W.w) A (call (.ref W.CR) a.pos) Q E s₂) E s) :
    wpAny (model W.prog W.w) A (callWith pos (.ref W.CR) [] trees []) Q E s := by
  unfold callWith
  refine wpAny_bind (wpAny_holding (wpAny_mono h (fun a s₂ h₂ => wpAny_bind (wpAny_standAt ?_)) fun _ _ x => x))
  obtain ⟨apos, akw⟩ := a
  obtain ⟨hkw, hB, h₂⟩ := h₂
  obtain rfl : akw = [] := hkw
  obtain ⟨hp, g, d, tk, os⟩ := s₂
  simp only [hplain]
  refine wpAny_bind (wpAny_keeperOf_exc (hB _ _ X.hC) ?_)
  exact wpAny_bind (wpAny_mono h₂ (fun r s₃ h₃ => wpAny_bind (wpAny_holding (wpAny_point (wpAny_pure h₃)))) fun _ _ x => x)

theorem make_exc (O : WOK W) (X : Cls W) (hk : HK W.B0) (hi : X.mN (Str.ofString "__init__") = some (.ref 62)) (hEx : W.mg (Str.ofString "Exception") = none) {k : Tok} {v2 v3 : Value} (hB : W.B0.StaysIn s.heap) (hd : A.depth < 980) {Q : Value → Shared → Prop}
    (h : ∀ e h' tk, Made W s.heap h' e v2 v3 → Q (.ref e) { s with heap := h', toks := tk }) : wpAny (model W.prog W.w) A (call (.ref W.CR) [.int 1 k, v2, v3]) Q E s := by
  obtain ⟨o, a1, a2, a3⟩ := hk.ini
  obtain ⟨hp, g, d, tk, os⟩ := s
  refine wpAny_call_exc_init F.excBase_Exception (hB _ _ X.hC) (X.hn.keeps hB) hi (hB _ _ a1) a2 (fun h' e hm => ?_) (by rw [sizeLine_eq]; simp)
  refine init_made (s := ⟨h', g, d, tk, os⟩) O X hk hEx hB hm (by show A.depth + 1 < 990; omega) fun h'' tk' M => ⟨rfl, h e h'' tk' M⟩

noncomputable def errEnv (L : Addr) : Env := callEnv errFdv L 77
theorem ee_kind (L : Addr) : (errEnv L).scope.kind = .function := by kernel_rfl
theorem ee_raised (L : Addr) : (errEnv L).scope.names.lookup (Str.ofString "Raised") = some .globalImplicit := by kernel_rfl
theorem ee_gl (L : Addr) : (errEnv L).globals = mainGlobals := by kernel_rfl
theorem ee_L (L : Addr) : (errEnv L).locals = L := by kernel_rfl
theorem ee_text (L : Addr) : (errEnv L).kindOf (Str.ofString "text") = some .local := by kernel_rfl
theorem ee_errorcode (L : Addr) : (errEnv L).kindOf (Str.ofString "errorcode") = some .local := by kernel_rfl
theorem nd_raised : (Str.ofString "Raised" == Str.ofString "__debug__") = false := by decide +kernel
theorem nd_text : (Str.ofString "text" == Str.ofString "__debug__") = false := by decide +kernel

theorem err_run (O : WOK W) (X : Cls W) (hk : HK W.B0) (hi : X.mN (Str.ofString "__init__") = some (.ref 62)) (hEx : W.mg (Str.ofString "Exception") = none) {v0 v1 : Value} {L : Addr} (hn : s.heap.Ns L (fun x => (errBinds v0 v1).reverse.lookup x)) (hB : W.B0.StaysIn s.heap) (hd : A.depth < 970) {Q : Flow → Shared → Prop}
    (h : ∀ e h' tk, Made W s.heap h' e v0 v1 → Q (.ret (.ref e)) { s with heap := h', toks := tk }) : wpAny (model W.prog W.w) A (execs errBody (errEnv L)) Q E s := by
  have hk' := ee_kind L
  have hn' : s.heap.Ns (errEnv L).locals (fun x => (errBinds v0 v1).reverse.lookup x) := by rw [ee_L]; exact hn
  have m0 : (errBinds v0 v1).reverse.lookup (Str.ofString "text") = some v0 := by kernel_rfl
  have m1 : (errBinds v0 v1).reverse.lookup (Str.ofString "errorcode") = some v1 := by kernel_rfl
  have hg' : s.heap.Ns (errEnv L).globals W.mg := by rw [ee_gl]; exact O.g.keeps hB
  show wpAny _ _ (execs [.Return (some (.Call (.Name (Str.ofString "Raised") _) [.Constant (.int 1) _ _, .Name (Str.ofString "text") _, .Name (Str.ofString "errorcode") _] [] _)) _] (errEnv L)) Q E s
  refine wpAny_execs_cons (wpAny_Return_some (wpAny_Call_NameR (Calls.Name_function_global hk' (ee_raised L) (Calls.loadGlobal_global (env := errEnv L) hg' X.mg ?_) nd_raised)))
  rw [starEach_plain (by intro e he; rcases List.mem_cons.mp he with rfl | he; rfl; rcases List.mem_cons.mp he with rfl | he; rfl; rcases List.mem_cons.mp he with rfl | he; rfl; cases he)]
  refine callWith_cls X rfl (evalArgs_map ?_)
  refine Calls.spliced_cons (wpAny_Constant_int (Calls.spliced_cons (wpAny_Name (wpAny_loadName_local hk' (ee_text L) hn' m0 (Calls.spliced_cons (wpAny_Name (wpAny_loadName_local hk' (ee_errorcode L) hn' m1 (Calls.spliced_nil ⟨rfl, hB, ?_⟩)) nd_errorcode))) nd_text)))
  exact make_exc (s := { s with toks := s.toks + 1 }) O X hk hi hEx hB (by omega) fun e h' tk M => h e h' tk M

theorem call_err (O : WOK W) (X : Cls W) (hk : HK W.B0) (hi : X.mN (Str.ofString "__init__") = some (.ref 62)) (hEx : W.mg (Str.ofString "Exception") = none) {n : Nat} (args : List TV) : CallOK W (n + 1) (.ref 77) args (errorP args) := by
  intro A envs s vs Q E hA R hB hF hv p
  obtain ⟨o, a1, a3⟩ := hk.err
  have hdata : o.data = .func errFdv := by
    rw [errFd_eq] at a3
    unfold fdOf at a3
    split at a3
    · rename_i fd q; cases a3; exact q
    · cases a3
  have hdp : A.depth + 57 < 1000 := by have := R.depth; omega
  have run : ∀ (v0 v1 : Value) (pos : List Value), vs = pos → BindsTo s errFdv ⟨pos, []⟩ (errBinds v0 v1) → (∀ e h' tk, Made W s.heap h' e v0 v1 → Q (.ref e) { s with heap := h', toks := tk }) → wpAny (model W.prog W.w) A (call (.ref 77) vs) Q E s := by
    intro v0 v1 pos hp hb hq
    subst hp
    refine wpAny_call (codeAny_call_def (by show A.depth < 1000; omega) (hB _ _ a1) hdata (noL O hB) (hk.k76.keeps hB) err_body hb ?_ ?_ (fun h₀ hn keep => ?_) (by kernel_rfl) (by kernel_rfl) (by kernel_rfl))
    · exact fun x hx q => by
        have : errFdv.scope.names.all (fun x => x.2 != .cell) = true := by kernel_rfl
        have := List.all_eq_true.mp this x hx
        rw [q] at this
        exact absurd this (by decide)
    · intro x hx
      have hx' : x.1 ∈ (errBinds .none .none).map (·.1) := by
        have := List.mem_map_of_mem (f := (·.1)) hx
        exact this
      have key : ((errBinds .none .none).map (·.1)).all (fun x => errFdv.scope.names.lookup x == some .local) = true := by kernel_rfl
      exact eq_of_beq (List.all_eq_true.mp key _ hx')
    · have hB0 : W.B0.StaysIn h₀ := fun b o q => keep b o (hB b o q)
      refine err_run (s := { s with heap := h₀, toks := _ }) O X hk hi hEx hn hB0 (by show A.depth + 1 < 970; omega) fun e h' tk M => ?_
      refine hq e h' tk ⟨fun b o q => M.keep b o (keep b o q), ?_, ?_⟩
      · cases q : s.heap.get? e with
        | none => rfl
        | some o => have := keep _ _ q; rw [M.new] at this; cases this
      · obtain ⟨D, m, vs', sl, k, c1, c2, c3, c4⟩ := M.obj
        refine ⟨D, m, vs', sl, k, c1, c2, ?_, c4⟩
        cases q : s.heap.get? D with
        | none => rfl
        | some o => have := keep _ _ q; rw [c3] at this; cases this
  have fin : ∀ (t : Str) (k : Tok) (ec : PyData) (v1 : Value) (as : List Addr), flat ec = true → Reads s.heap v1 ec as → PC W envs s Q E (some (.ok (.exc t ec))) →
      ∀ e h' tk, Made W s.heap h' e (.str t k) v1 → Q (.ref e) { s with heap := h', toks := tk } := by
    intro t k ec v1 as f r p e h' tk M
    obtain ⟨D, m, vs', sl, k', c1, c2, c3, c4, c5, c6, c7⟩ := M.obj
    exact p (.ref e) h' tk (.of_stays M.keep) ⟨e, rfl, D, m, vs', sl, v1, k', k, as, c1, c2, M.new, c3, c4, c5, c6, c7, f, reads_up (fun b o q => ⟨o.slots, M.keep b o q⟩) r⟩
  unfold errorP at p
  split at p
  · rename_i t
    cases vs with
    | nil => exact hv.elim
    | cons v vs =>
      cases vs with
      | cons _ _ => exact hv.2.elim
      | nil =>
        obtain ⟨k, rfl⟩ := vrd_str hv.1
        refine run _ _ _ rfl (err_binds1 (hB _ _ hk.t70)) (fin t k _ (.ref 69) [] rfl ?_ p)
        exact .tuple (hB _ _ hk.t69) rfl rfl (.cons (.str _ _) .nil)
  · rename_i t ec
    split at p
    · rename_i hf
      cases vs with
      | nil => exact hv.elim
      | cons v vs =>
        cases vs with
        | nil => exact hv.2.elim
        | cons v' vs =>
          cases vs with
          | cons _ _ => exact hv.2.2.elim
          | nil =>
            obtain ⟨k, rfl⟩ := vrd_str hv.1
            obtain ⟨_, as, r⟩ := hv.2.1
            exact run _ _ _ rfl (err_binds2 (hB _ _ hk.t70)) (fin t k _ v' as (by simpa [flat] using hf) r p)
    · exact p.elim
  · exact p.elim
end
end NP
end
section
open PySem PySem.Calls PyProof.Rows PySem.W PySem.Spec
set_option maxRecDepth 100000
namespace NP


noncomputable def f_is_blank : CFn := ⟨Str.ofString "is_blank", 1, [Str.ofString "c"], [
  (.ret (.cmp .In (.var 0) (.tup [(.lit (.str ⟨#[32]⟩)), (.lit (.str ⟨#[9]⟩)), (.lit (.str ⟨#[10]⟩)), (.lit (.str ⟨#[11]⟩)), (.lit (.str ⟨#[12]⟩)), (.lit (.str ⟨#[13]⟩))])))]⟩
noncomputable def f_digit : CFn := ⟨Str.ofString "digit", 1, [Str.ofString "c", Str.ofString "n"], [
  (.ite (.cmp .NotEq (.len (.var 0)) (.lit (.int (1)))) [
    (.ret (.neg (.lit (.int (1)))))] []),
  (.assign 1 (.ord (.var 0))),
  (.ite (.cmp2 .LtE .LtE (.lit (.int (48))) (.var 1) (.lit (.int (57)))) [
    (.ret (.bin .Sub (.var 1) (.lit (.int (48)))))] []),
  (.ite (.cmp2 .LtE .LtE (.lit (.int (97))) (.var 1) (.lit (.int (122)))) [
    (.ret (.bin .Sub (.var 1) (.lit (.int (87)))))] []),
  (.ite (.cmp2 .LtE .LtE (.lit (.int (65))) (.var 1) (.lit (.int (90)))) [
    (.ret (.bin .Sub (.var 1) (.lit (.int (55)))))] []),
  (.ret (.neg (.lit (.int (1)))))]⟩
noncomputable def f_digits_value : CFn := ⟨Str.ofString "digits_value", 2, [Str.ofString "text", Str.ofString "base", Str.ofString "value", Str.ofString "c", Str.ofString "n"], [
  (.ite (.cmp .Eq (.var 0) (.lit (.str ⟨#[]⟩))) [
    (.ret (.lit .none))] []),
  (.assign 2 (.lit (.int (0)))),
  (.for1 3 (.val (.var 0)) [
    (.assign 4 (.call 2 [(.var 3)])),
    (.ite (.boolop false [(.cmp .Lt (.var 4) (.lit (.int (0)))), (.cmp .GtE (.var 4) (.var 1))]) [
      (.ret (.lit .none))] []),
    (.assign 2 (.bin .Add (.bin .Mult (.var 2) (.var 1)) (.var 4)))]),
  (.ret (.var 2))]⟩
noncomputable def f_base_of : CFn := ⟨Str.ofString "base_of", 1, [Str.ofString "mark"], [
  (.ite (.cmp .In (.var 0) (.tup [(.lit (.str ⟨#[120]⟩)), (.lit (.str ⟨#[88]⟩))])) [
    (.ret (.lit (.int (16))))] []),
  (.ite (.cmp .In (.var 0) (.tup [(.lit (.str ⟨#[111]⟩)), (.lit (.str ⟨#[79]⟩))])) [
    (.ret (.lit (.int (8))))] []),
  (.ite (.cmp .In (.var 0) (.tup [(.lit (.str ⟨#[98]⟩)), (.lit (.str ⟨#[66]⟩))])) [
    (.ret (.lit (.int (2))))] []),
  (.ite (.cmp .In (.var 0) (.tup [(.lit (.str ⟨#[100]⟩)), (.lit (.str ⟨#[68]⟩))])) [
    (.ret (.lit (.int (10))))] []),
  (.ret (.lit (.int (0))))]⟩
noncomputable def f_whole_of : CFn := ⟨Str.ofString "whole_of", 1, [Str.ofString "text", Str.ofString "first", Str.ofString "behind", Str.ofString "is_minus", Str.ofString "base", Str.ofString "value"], [
  (.assignT [1, 2] (.tup [(.lit (.int (0))), (.len (.var 0))])),
  (.loop (.boolop true [(.cmp .Lt (.var 1) (.var 2)), (.call 1 [(.sub (.var 0) (.var 1))])]) [
    (.aug .Add 1 (.lit (.int (1))))]),
  (.loop (.boolop true [(.cmp .Lt (.var 1) (.var 2)), (.call 1 [(.sub (.var 0) (.bin .Sub (.var 2) (.lit (.int (1)))))])]) [
    (.aug .Sub 2 (.lit (.int (1))))]),
  (.assign 3 (.lit (.bool false))),
  (.ite (.boolop true [(.cmp .Lt (.var 1) (.var 2)), (.cmp .In (.sub (.var 0) (.var 1)) (.tup [(.lit (.str ⟨#[43]⟩)), (.lit (.str ⟨#[45]⟩))]))]) [
    (.assign 3 (.cmp .Eq (.sub (.var 0) (.var 1)) (.lit (.str ⟨#[45]⟩)))),
    (.aug .Add 1 (.lit (.int (1))))] []),
  (.assign 4 (.lit (.int (0)))),
  (.ite (.boolop true [(.cmp .Gt (.bin .Sub (.var 2) (.var 1)) (.lit (.int (2)))), (.cmp .Eq (.sub (.var 0) (.var 1)) (.lit (.str ⟨#[48]⟩)))]) [
    (.assign 4 (.call 4 [(.sub (.var 0) (.bin .Add (.var 1) (.lit (.int (1)))))]))] []),
  (.ite (.cmp .Gt (.var 4) (.lit (.int (0)))) [
    (.assign 5 (.call 3 [(.slice (.var 0) (.bin .Add (.var 1) (.lit (.int (2)))) (.var 2)), (.var 4)]))] [
    (.assign 5 (.call 3 [(.slice (.var 0) (.var 1) (.var 2)), (.lit (.int (10)))]))]),
  (.ite (.cmp .Is (.var 5) (.lit .none)) [
    (.ret (.lit .none))] []),
  (.ret (.ife (.var 3) (.neg (.var 5)) (.var 5)))]⟩
noncomputable def f_bool_of : CFn := ⟨Str.ofString "bool_of", 1, [Str.ofString "text", Str.ofString "value", Str.ofString "low", Str.ofString "word"], [
  (.assign 1 (.call 5 [(.var 0)])),
  (.ite (.cmp .IsNot (.var 1) (.lit .none)) [
    (.ret (.cmp .NotEq (.var 1) (.lit (.int (0)))))] []),
  (.assign 2 (.lower (.var 0))),
  (.ite (.cmp .In (.var 2) (.tup [(.lit (.str ⟨#[]⟩)), (.lit (.str ⟨#[111]⟩))])) [
    (.ret (.lit .none))] []),
  (.for1 3 (.val (.tup [(.lit (.str ⟨#[116, 114, 117, 101]⟩)), (.lit (.str ⟨#[121, 101, 115]⟩)), (.lit (.str ⟨#[111, 110]⟩))])) [
    (.ite (.starts (.var 3) (.var 2)) [
      (.ret (.lit (.bool true)))] [])]),
  (.for1 3 (.val (.tup [(.lit (.str ⟨#[102, 97, 108, 115, 101]⟩)), (.lit (.str ⟨#[110, 111]⟩)), (.lit (.str ⟨#[111, 102, 102]⟩))])) [
    (.ite (.starts (.var 3) (.var 2)) [
      (.ret (.lit (.bool false)))] [])]),
  (.ret (.lit .none))]⟩
noncomputable def f_text_of : CFn := ⟨Str.ofString "text_of", 1, [Str.ofString "is_so"], [
  (.ret (.ife (.var 0) (.lit (.str ⟨#[49]⟩)) (.lit (.str ⟨#[48]⟩))))]⟩
noncomputable def f_check_behind : CFn := ⟨Str.ofString "check_behind", 3, [Str.ofString "text", Str.ofString "at", Str.ofString "what", Str.ofString "end"], [
  (.ite (.boolop false [(.cmp .GtE (.var 1) (.len (.var 0))), (.call 1 [(.sub (.var 0) (.var 1))])]) [
    .retNone] []),
  (.assign 3 (.var 1)),
  (.loop (.boolop true [(.cmp .Lt (.var 3) (.len (.var 0))), (.cmp .Lt (.var 3) (.bin .Add (.var 1) (.lit (.int (20))))), (.not (.call 1 [(.sub (.var 0) (.var 3))]))]) [
    (.aug .Add 3 (.lit (.int (1))))]),
  (.raise (.call 0 [(.bin .Add (.bin .Add (.bin .Add (.bin .Add (.lit (.str ⟨#[108, 105, 115, 116, 32, 101, 108, 101, 109, 101, 110, 116, 32, 105, 110, 32]⟩)) (.var 2)) (.lit (.str ⟨#[32, 102, 111, 108, 108, 111, 119, 101, 100, 32, 98, 121, 32, 34]⟩))) (.slice (.var 0) (.var 1) (.var 3))) (.lit (.str ⟨#[34, 32, 105, 110, 115, 116, 101, 97, 100, 32, 111, 102, 32, 115, 112, 97, 99, 101]⟩))), (.tup [(.lit (.str ⟨#[84, 67, 76]⟩)), (.lit (.str ⟨#[86, 65, 76, 85, 69]⟩)), (.lit (.str ⟨#[76, 73, 83, 84]⟩)), (.lit (.str ⟨#[74, 85, 78, 75]⟩))])]))]⟩
noncomputable def f_braced_element : CFn := ⟨Str.ofString "braced_element", 2, [Str.ofString "text", Str.ofString "first", Str.ofString "depth", Str.ofString "at", Str.ofString "c"], [
  (.assignT [2, 3] (.tup [(.lit (.int (1))), (.var 1)])),
  (.loop (.cmp .Lt (.var 3) (.len (.var 0))) [
    (.assign 4 (.sub (.var 0) (.var 3))),
    (.ite (.cmp .Eq (.var 4) (.lit (.str ⟨#[92]⟩))) [
      (.aug .Add 3 (.lit (.int (1))))] [
      (.ite (.cmp .Eq (.var 4) (.lit (.str ⟨#[123]⟩))) [
        (.aug .Add 2 (.lit (.int (1))))] [
        (.ite (.cmp .Eq (.var 4) (.lit (.str ⟨#[125]⟩))) [
          (.aug .Sub 2 (.lit (.int (1)))),
          (.ite (.cmp .Eq (.var 2) (.lit (.int (0)))) [
            (.drop (.call 11 [(.var 0), (.bin .Add (.var 3) (.lit (.int (1)))), (.lit (.str ⟨#[98, 114, 97, 99, 101, 115]⟩))])),
            (.ret (.tup [(.slice (.var 0) (.var 1) (.var 3)), (.bin .Add (.var 3) (.lit (.int (1))))]))] [])] [])])]),
    (.aug .Add 3 (.lit (.int (1))))]),
  (.raise (.call 0 [(.lit (.str ⟨#[117, 110, 109, 97, 116, 99, 104, 101, 100, 32, 111, 112, 101, 110, 32, 98, 114, 97, 99, 101, 32, 105, 110, 32, 108, 105, 115, 116]⟩)), (.tup [(.lit (.str ⟨#[84, 67, 76]⟩)), (.lit (.str ⟨#[86, 65, 76, 85, 69]⟩)), (.lit (.str ⟨#[76, 73, 83, 84]⟩)), (.lit (.str ⟨#[66, 82, 65, 67, 69]⟩))])]))]⟩
noncomputable def f_quoted_element : CFn := ⟨Str.ofString "quoted_element", 2, [Str.ofString "text", Str.ofString "at", Str.ofString "out", Str.ofString "c"], [
  (.assign 2 (.lst [])),
  (.loop (.cmp .Lt (.var 1) (.len (.var 0))) [
    (.assign 3 (.sub (.var 0) (.var 1))),
    (.ite (.cmp .Eq (.var 3) (.lit (.str ⟨#[92]⟩))) [
      (.assignT [3, 1] (.call 10 [(.var 0), (.var 1)]))] [
      (.ite (.cmp .Eq (.var 3) (.lit (.str ⟨#[34]⟩))) [
        (.drop (.call 11 [(.var 0), (.bin .Add (.var 1) (.lit (.int (1)))), (.lit (.str ⟨#[113, 117, 111, 116, 101, 115]⟩))])),
        (.ret (.tup [(.join (.lit (.str ⟨#[]⟩)) (.var 2)), (.bin .Add (.var 1) (.lit (.int (1))))]))] [
        (.aug .Add 1 (.lit (.int (1))))])]),
    (.append 2 (.var 3))]),
  (.raise (.call 0 [(.lit (.str ⟨#[117, 110, 109, 97, 116, 99, 104, 101, 100, 32, 111, 112, 101, 110, 32, 113, 117, 111, 116, 101, 32, 105, 110, 32, 108, 105, 115, 116]⟩)), (.tup [(.lit (.str ⟨#[84, 67, 76]⟩)), (.lit (.str ⟨#[86, 65, 76, 85, 69]⟩)), (.lit (.str ⟨#[76, 73, 83, 84]⟩)), (.lit (.str ⟨#[81, 85, 79, 84, 69]⟩))])]))]⟩
noncomputable def f_bare_element : CFn := ⟨Str.ofString "bare_element", 2, [Str.ofString "text", Str.ofString "at", Str.ofString "out", Str.ofString "c"], [
  (.assign 2 (.lst [])),
  (.loop (.boolop true [(.cmp .Lt (.var 1) (.len (.var 0))), (.not (.call 1 [(.sub (.var 0) (.var 1))]))]) [
    (.assign 3 (.sub (.var 0) (.var 1))),
    (.ite (.cmp .Eq (.var 3) (.lit (.str ⟨#[92]⟩))) [
      (.assignT [3, 1] (.call 10 [(.var 0), (.var 1)]))] [
      (.aug .Add 1 (.lit (.int (1))))]),
    (.append 2 (.var 3))]),
  (.ret (.tup [(.join (.lit (.str ⟨#[]⟩)) (.var 2)), (.var 1)]))]⟩
noncomputable def f_find_element : CFn := ⟨Str.ofString "find_element", 2, [Str.ofString "text", Str.ofString "at"], [
  (.loop (.boolop true [(.cmp .Lt (.var 1) (.len (.var 0))), (.call 1 [(.sub (.var 0) (.var 1))])]) [
    (.aug .Add 1 (.lit (.int (1))))]),
  (.ite (.cmp .GtE (.var 1) (.len (.var 0))) [
    (.ret (.lit .none))] []),
  (.ite (.cmp .Eq (.sub (.var 0) (.var 1)) (.lit (.str ⟨#[123]⟩))) [
    (.ret (.call 12 [(.var 0), (.bin .Add (.var 1) (.lit (.int (1))))]))] []),
  (.ite (.cmp .Eq (.sub (.var 0) (.var 1)) (.lit (.str ⟨#[34]⟩))) [
    (.ret (.call 13 [(.var 0), (.bin .Add (.var 1) (.lit (.int (1))))]))] []),
  (.ret (.call 14 [(.var 0), (.var 1)]))]⟩
noncomputable def f_split_list : CFn := ⟨Str.ofString "split_list", 1, [Str.ofString "text", Str.ofString "items", Str.ofString "found"], [
  (.assign 1 (.lst [])),
  (.assign 2 (.call 15 [(.var 0), (.lit (.int (0)))])),
  (.loop (.cmp .IsNot (.var 2) (.lit .none)) [
    (.append 1 (.sub (.var 2) (.lit (.int (0))))),
    (.assign 2 (.call 15 [(.var 0), (.sub (.var 2) (.lit (.int (1))))]))]),
  (.ret (.var 1))]⟩
noncomputable def f_operand_fault : CFn := ⟨Str.ofString "operand_fault", 2, [Str.ofString "op", Str.ofString "text", Str.ofString "what", Str.ofString "shown"], [
  (.assignT [2, 3] (.tup [(.lit (.str ⟨#[110, 111, 110, 45, 110, 117, 109, 101, 114, 105, 99, 32, 115, 116, 114, 105, 110, 103]⟩)), (.fstr [(.lit (.str ⟨#[110, 111, 110, 45, 110, 117, 109, 101, 114, 105, 99, 32, 115, 116, 114, 105, 110, 103, 32, 34]⟩)), (.var 1), (.lit (.str ⟨#[34]⟩))])])),
  (.ite (.cmp .Eq (.var 1) (.lit (.str ⟨#[]⟩))) [
    (.assignT [2, 3] (.tup [(.lit (.str ⟨#[101, 109, 112, 116, 121, 32, 115, 116, 114, 105, 110, 103]⟩)), (.lit (.str ⟨#[101, 109, 112, 116, 121, 32, 115, 116, 114, 105, 110, 103]⟩))]))] []),
  (.ret (.call 0 [(.fstr [(.lit (.str ⟨#[99, 97, 110, 39, 116, 32, 117, 115, 101, 32]⟩)), (.var 3), (.lit (.str ⟨#[32, 97, 115, 32, 111, 112, 101, 114, 97, 110, 100, 32, 111, 102, 32, 34]⟩)), (.var 0), (.lit (.str ⟨#[34]⟩))]), (.tup [(.lit (.str ⟨#[65, 82, 73, 84, 72]⟩)), (.lit (.str ⟨#[68, 79, 77, 65, 73, 78]⟩)), (.var 2)])]))]⟩
noncomputable def f_operand : CFn := ⟨Str.ofString "operand", 2, [Str.ofString "op", Str.ofString "text", Str.ofString "number"], [
  (.assign 2 (.call 5 [(.var 1)])),
  (.ite (.cmp .Is (.var 2) (.lit .none)) [
    (.raise (.call 17 [(.var 0), (.var 1)]))] []),
  (.ret (.var 2))]⟩
noncomputable def f_unary : CFn := ⟨Str.ofString "unary", 2, [Str.ofString "op", Str.ofString "a", Str.ofString "is_so", Str.ofString "number"], [
  (.ite (.cmp .Eq (.var 0) (.lit (.str ⟨#[33]⟩))) [
    (.assign 2 (.call 6 [(.var 1)])),
    (.ite (.cmp .Is (.var 2) (.lit .none)) [
      (.raise (.call 17 [(.var 0), (.var 1)]))] []),
    (.ret (.call 7 [(.not (.var 2))]))] []),
  (.assign 3 (.call 18 [(.var 0), (.var 1)])),
  (.ite (.cmp .Eq (.var 0) (.lit (.str ⟨#[45]⟩))) [
    (.ret (.tostr (.neg (.var 3))))] []),
  (.ite (.cmp .Eq (.var 0) (.lit (.str ⟨#[126]⟩))) [
    (.ret (.tostr (.inv (.var 3))))] []),
  (.ite (.cmp .Eq (.var 0) (.lit (.str ⟨#[43]⟩))) [
    (.ret (.tostr (.var 3)))] []),
  .stuck]⟩
noncomputable def f_need_divisor : CFn := ⟨Str.ofString "need_divisor", 1, [Str.ofString "number"], [
  (.ite (.cmp .Eq (.var 0) (.lit (.int (0)))) [
    (.raise (.call 0 [(.lit (.str ⟨#[100, 105, 118, 105, 100, 101, 32, 98, 121, 32, 122, 101, 114, 111]⟩)), (.tup [(.lit (.str ⟨#[65, 82, 73, 84, 72]⟩)), (.lit (.str ⟨#[68, 73, 86, 90, 69, 82, 79]⟩)), (.lit (.str ⟨#[100, 105, 118, 105, 100, 101, 32, 98, 121, 32, 122, 101, 114, 111]⟩))])]))] [])]⟩
noncomputable def f_power : CFn := ⟨Str.ofString "power", 2, [Str.ofString "base", Str.ofString "exponent", Str.ofString "why"], [
  (.ite (.cmp .Eq (.var 1) (.lit (.int (0)))) [
    (.ret (.lit (.int (1))))] []),
  (.ite (.boolop true [(.cmp .Eq (.var 0) (.lit (.int (0)))), (.cmp .Lt (.var 1) (.lit (.int (0))))]) [
    (.assign 2 (.lit (.str ⟨#[101, 120, 112, 111, 110, 101, 110, 116, 105, 97, 116, 105, 111, 110, 32, 111, 102, 32, 122, 101, 114, 111, 32, 98, 121, 32, 110, 101, 103, 97, 116, 105, 118, 101, 32, 112, 111, 119, 101, 114]⟩))),
    (.raise (.call 0 [(.var 2), (.tup [(.lit (.str ⟨#[65, 82, 73, 84, 72]⟩)), (.lit (.str ⟨#[68, 79, 77, 65, 73, 78]⟩)), (.var 2)])]))] []),
  (.ite (.boolop false [(.cmp .Eq (.var 0) (.lit (.int (0)))), (.cmp .Eq (.var 0) (.lit (.int (1))))]) [
    (.ret (.var 0))] []),
  (.ite (.cmp .Eq (.var 0) (.neg (.lit (.int (1))))) [
    (.ret (.ife (.cmp .Eq (.bin .Mod (.var 1) (.lit (.int (2)))) (.lit (.int (0)))) (.lit (.int (1))) (.neg (.lit (.int (1))))))] []),
  (.ite (.cmp .Lt (.var 1) (.lit (.int (0)))) [
    (.ret (.lit (.int (0))))] []),
  (.ite (.cmp .GtE (.var 1) (.bin .Pow (.lit (.int (2))) (.lit (.int (28))))) [
    (.raise (.call 0 [(.lit (.str ⟨#[101, 120, 112, 111, 110, 101, 110, 116, 32, 116, 111, 111, 32, 108, 97, 114, 103, 101]⟩))]))] []),
  (.ret (.bin .Pow (.var 0) (.var 1)))]⟩
noncomputable def f_need_count : CFn := ⟨Str.ofString "need_count", 1, [Str.ofString "count"], [
  (.ite (.cmp .Lt (.var 0) (.lit (.int (0)))) [
    (.raise (.call 0 [(.lit (.str ⟨#[110, 101, 103, 97, 116, 105, 118, 101, 32, 115, 104, 105, 102, 116, 32, 97, 114, 103, 117, 109, 101, 110, 116]⟩)), (.tup [(.lit (.str ⟨#[65, 82, 73, 84, 72]⟩)), (.lit (.str ⟨#[68, 79, 77, 65, 73, 78]⟩)), (.lit (.str ⟨#[100, 111, 109, 97, 105, 110, 32, 101, 114, 114, 111, 114, 58, 32, 97, 114, 103, 117, 109, 101, 110, 116, 32, 110, 111, 116, 32, 105, 110, 32, 118, 97, 108, 105, 100, 32, 114, 97, 110, 103, 101]⟩))])]))] [])]⟩
noncomputable def f_shifted_left : CFn := ⟨Str.ofString "shifted_left", 2, [Str.ofString "number", Str.ofString "count", Str.ofString "why"], [
  (.drop (.call 22 [(.var 1)])),
  (.ite (.cmp .Eq (.var 0) (.lit (.int (0)))) [
    (.ret (.lit (.int (0))))] []),
  (.ite (.cmp .GtE (.var 1) (.bin .Pow (.lit (.int (2))) (.lit (.int (31))))) [
    (.assign 2 (.lit (.str ⟨#[105, 110, 116, 101, 103, 101, 114, 32, 118, 97, 108, 117, 101, 32, 116, 111, 111, 32, 108, 97, 114, 103, 101, 32, 116, 111, 32, 114, 101, 112, 114, 101, 115, 101, 110, 116]⟩))),
    (.raise (.call 0 [(.var 2), (.tup [(.lit (.str ⟨#[65, 82, 73, 84, 72]⟩)), (.lit (.str ⟨#[73, 79, 86, 69, 82, 70, 76, 79, 87]⟩)), (.var 2)])]))] []),
  (.ret (.bin .LShift (.var 0) (.var 1)))]⟩
noncomputable def f_shifted_right : CFn := ⟨Str.ofString "shifted_right", 2, [Str.ofString "number", Str.ofString "count"], [
  (.drop (.call 22 [(.var 1)])),
  (.ite (.cmp .GtE (.var 1) (.bin .Pow (.lit (.int (2))) (.lit (.int (31))))) [
    (.ret (.ife (.cmp .Lt (.var 0) (.lit (.int (0)))) (.neg (.lit (.int (1)))) (.lit (.int (0)))))] []),
  (.ret (.bin .RShift (.var 0) (.var 1)))]⟩
noncomputable def f_arithmetic : CFn := ⟨Str.ofString "arithmetic", 3, [Str.ofString "op", Str.ofString "left", Str.ofString "right"], [
  (.ite (.cmp .Eq (.var 0) (.lit (.str ⟨#[43]⟩))) [
    (.ret (.bin .Add (.var 1) (.var 2)))] []),
  (.ite (.cmp .Eq (.var 0) (.lit (.str ⟨#[45]⟩))) [
    (.ret (.bin .Sub (.var 1) (.var 2)))] []),
  (.ite (.cmp .Eq (.var 0) (.lit (.str ⟨#[42]⟩))) [
    (.ret (.bin .Mult (.var 1) (.var 2)))] []),
  (.ite (.cmp .Eq (.var 0) (.lit (.str ⟨#[47]⟩))) [
    (.drop (.call 20 [(.var 2)])),
    (.ret (.bin .FloorDiv (.var 1) (.var 2)))] []),
  (.ite (.cmp .Eq (.var 0) (.lit (.str ⟨#[37]⟩))) [
    (.drop (.call 20 [(.var 2)])),
    (.ret (.bin .Mod (.var 1) (.var 2)))] []),
  (.ite (.cmp .Eq (.var 0) (.lit (.str ⟨#[42, 42]⟩))) [
    (.ret (.call 21 [(.var 1), (.var 2)]))] []),
  (.ite (.cmp .Eq (.var 0) (.lit (.str ⟨#[60, 60]⟩))) [
    (.ret (.call 23 [(.var 1), (.var 2)]))] []),
  (.ite (.cmp .Eq (.var 0) (.lit (.str ⟨#[62, 62]⟩))) [
    (.ret (.call 24 [(.var 1), (.var 2)]))] []),
  (.ite (.cmp .Eq (.var 0) (.lit (.str ⟨#[38]⟩))) [
    (.ret (.bin .BitAnd (.var 1) (.var 2)))] []),
  (.ite (.cmp .Eq (.var 0) (.lit (.str ⟨#[124]⟩))) [
    (.ret (.bin .BitOr (.var 1) (.var 2)))] []),
  (.ite (.cmp .Eq (.var 0) (.lit (.str ⟨#[94]⟩))) [
    (.ret (.bin .BitXor (.var 1) (.var 2)))] []),
  .stuck]⟩
noncomputable def f_text_order : CFn := ⟨Str.ofString "text_order", 2, [Str.ofString "a", Str.ofString "b"], [
  (.ite (.cmp .Eq (.var 0) (.var 1)) [
    (.ret (.lit (.int (0))))] []),
  (.ret (.ife (.cmp .Lt (.var 0) (.var 1)) (.neg (.lit (.int (1)))) (.lit (.int (1)))))]⟩
noncomputable def f_order_of : CFn := ⟨Str.ofString "order_of", 2, [Str.ofString "a", Str.ofString "b", Str.ofString "left", Str.ofString "right"], [
  (.assign 2 (.call 5 [(.var 0)])),
  (.assign 3 (.call 5 [(.var 1)])),
  (.ite (.boolop false [(.cmp .Is (.var 2) (.lit .none)), (.cmp .Is (.var 3) (.lit .none))]) [
    (.ret (.call 26 [(.var 0), (.var 1)]))] []),
  (.ret (.bin .Sub (.var 2) (.var 3)))]⟩
noncomputable def f_relation : CFn := ⟨Str.ofString "relation", 2, [Str.ofString "op", Str.ofString "order"], [
  (.ite (.boolop false [(.cmp .Eq (.var 0) (.lit (.str ⟨#[61, 61]⟩))), (.cmp .Eq (.var 0) (.lit (.str ⟨#[101, 113]⟩)))]) [
    (.ret (.cmp .Eq (.var 1) (.lit (.int (0)))))] []),
  (.ite (.boolop false [(.cmp .Eq (.var 0) (.lit (.str ⟨#[33, 61]⟩))), (.cmp .Eq (.var 0) (.lit (.str ⟨#[110, 101]⟩)))]) [
    (.ret (.cmp .NotEq (.var 1) (.lit (.int (0)))))] []),
  (.ite (.boolop false [(.cmp .Eq (.var 0) (.lit (.str ⟨#[60]⟩))), (.cmp .Eq (.var 0) (.lit (.str ⟨#[108, 116]⟩)))]) [
    (.ret (.cmp .Lt (.var 1) (.lit (.int (0)))))] []),
  (.ite (.boolop false [(.cmp .Eq (.var 0) (.lit (.str ⟨#[60, 61]⟩))), (.cmp .Eq (.var 0) (.lit (.str ⟨#[108, 101]⟩)))]) [
    (.ret (.cmp .LtE (.var 1) (.lit (.int (0)))))] []),
  (.ite (.boolop false [(.cmp .Eq (.var 0) (.lit (.str ⟨#[62]⟩))), (.cmp .Eq (.var 0) (.lit (.str ⟨#[103, 116]⟩)))]) [
    (.ret (.cmp .Gt (.var 1) (.lit (.int (0)))))] []),
  (.ret (.cmp .GtE (.var 1) (.lit (.int (0)))))]⟩
noncomputable def f_binary : CFn := ⟨Str.ofString "binary", 3, [Str.ofString "op", Str.ofString "a", Str.ofString "b", Str.ofString "is_in", Str.ofString "left", Str.ofString "right"], [
  (.ite (.cmp .In (.var 0) (.tup [(.lit (.str ⟨#[61, 61]⟩)), (.lit (.str ⟨#[33, 61]⟩)), (.lit (.str ⟨#[60]⟩)), (.lit (.str ⟨#[60, 61]⟩)), (.lit (.str ⟨#[62]⟩)), (.lit (.str ⟨#[62, 61]⟩))])) [
    (.ret (.call 7 [(.call 28 [(.var 0), (.call 27 [(.var 1), (.var 2)])])]))] []),
  (.ite (.cmp .In (.var 0) (.tup [(.lit (.str ⟨#[101, 113]⟩)), (.lit (.str ⟨#[110, 101]⟩)), (.lit (.str ⟨#[108, 116]⟩)), (.lit (.str ⟨#[108, 101]⟩)), (.lit (.str ⟨#[103, 116]⟩)), (.lit (.str ⟨#[103, 101]⟩))])) [
    (.ret (.call 7 [(.call 28 [(.var 0), (.call 26 [(.var 1), (.var 2)])])]))] []),
  (.ite (.cmp .In (.var 0) (.tup [(.lit (.str ⟨#[105, 110]⟩)), (.lit (.str ⟨#[110, 105]⟩))])) [
    (.assign 3 (.cmp .In (.var 1) (.call 16 [(.var 2)]))),
    (.ret (.call 7 [(.cmp .Eq (.var 3) (.cmp .Eq (.var 0) (.lit (.str ⟨#[105, 110]⟩))))]))] []),
  (.assign 4 (.call 18 [(.var 0), (.var 1)])),
  (.assign 5 (.call 18 [(.var 0), (.var 2)])),
  (.ret (.tostr (.call 25 [(.var 0), (.var 4), (.var 5)])))]⟩
noncomputable def f_law_number : CFn := ⟨Str.ofString "_law_number", 2, [Str.ofString "script", Str.ofString "place"], [
  (.ret (.ife (.cmp .Gt (.len (.var 0)) (.lit (.int (0)))) (.sub (.var 0) (.bin .Mod (.var 1) (.len (.var 0)))) (.lit (.int (0)))))]⟩
noncomputable def f_law_value : CFn := ⟨Str.ofString "_law_value", 2, [Str.ofString "number", Str.ofString "k", Str.ofString "size"], [
  (.ite (.cmp .Eq (.bin .Mod (.bin .Add (.var 0) (.var 1)) (.lit (.int (2)))) (.lit (.int (0)))) [
    (.ret (.sub (.tup [(.lit (.int (3))), (.lit (.int (0))), (.bin .Sub (.neg (.bin .Pow (.lit (.int (2))) (.lit (.int (64))))) (.lit (.int (1)))), (.neg (.lit (.int (1)))), (.neg (.lit (.int (12)))), (.lit (.int (1))), (.bin .Pow (.lit (.int (2))) (.lit (.int (31)))), (.bin .Pow (.lit (.int (2))) (.lit (.int (28)))), (.lit (.int (6))), (.lit (.int (0)))]) (.bin .Mod (.bin .Add (.bin .FloorDiv (.var 0) (.lit (.int (2)))) (.var 1)) (.lit (.int (10))))))] []),
  (.assign 2 (.bin .Mod (.bin .FloorDiv (.abs (.var 0)) (.lit (.int (2)))) (.bin .Pow (.lit (.int (2))) (.lit (.int (36)))))),
  (.ret (.bin .Sub (.bin .Add (.ife (.cmp .Gt (.var 0) (.lit (.int (0)))) (.var 2) (.neg (.var 2))) (.bin .Mult (.lit (.int (3))) (.var 1))) (.lit (.int (20)))))]⟩
noncomputable def f_law_small : CFn := ⟨Str.ofString "_law_small", 1, [Str.ofString "number", Str.ofString "size"], [
  (.assign 1 (.bin .Mod (.abs (.var 0)) (.lit (.int (997))))),
  (.ret (.ife (.cmp .Gt (.var 0) (.lit (.int (0)))) (.var 1) (.neg (.var 1))))]⟩
noncomputable def f_law_written : CFn := ⟨Str.ofString "_law_written", 2, [Str.ofString "number", Str.ofString "way", Str.ofString "rest", Str.ofString "which", Str.ofString "base", Str.ofString "digits", Str.ofString "sign", Str.ofString "text"], [
  (.assign 2 (.abs (.var 0))),
  (.assign 3 (.ife (.cmp .Lt (.var 2) (.bin .Pow (.lit (.int (2))) (.lit (.int (16))))) (.bin .Mod (.var 1) (.lit (.int (5)))) (.bin .Mod (.var 1) (.lit (.int (2)))))),
  (.assign 4 (.sub (.tup [(.lit (.int (10))), (.lit (.int (16))), (.lit (.int (8))), (.lit (.int (2))), (.lit (.int (10)))]) (.var 3))),
  (.assign 5 (.lit (.str ⟨#[]⟩))),
  (.loop (.boolop false [(.cmp .Gt (.var 2) (.lit (.int (0)))), (.cmp .Eq (.var 5) (.lit (.str ⟨#[]⟩)))]) [
    (.assign 5 (.bin .Add (.sub (.lit (.str ⟨#[48, 49, 50, 51, 52, 53, 54, 55, 56, 57, 97, 66, 99, 68, 101, 70]⟩)) (.bin .Mod (.var 2) (.var 4))) (.var 5))),
    (.assign 2 (.bin .FloorDiv (.var 2) (.var 4)))]),
  (.assign 6 (.ife (.cmp .Lt (.var 0) (.lit (.int (0)))) (.lit (.str ⟨#[45]⟩)) (.sub (.tup [(.lit (.str ⟨#[]⟩)), (.lit (.str ⟨#[43]⟩))]) (.bin .Mod (.bin .FloorDiv (.var 1) (.lit (.int (5)))) (.lit (.int (2))))))),
  (.assign 7 (.bin .Add (.bin .Add (.var 6) (.sub (.tup [(.lit (.str ⟨#[]⟩)), (.lit (.str ⟨#[48, 88]⟩)), (.lit (.str ⟨#[48, 111]⟩)), (.lit (.str ⟨#[48, 98]⟩)), (.lit (.str ⟨#[48, 100, 48, 48]⟩))]) (.var 3))) (.var 5))),
  (.ret (.bin .Add (.bin .Add (.sub (.tup [(.lit (.str ⟨#[]⟩)), (.lit (.str ⟨#[32]⟩)), (.lit (.str ⟨#[10]⟩))]) (.bin .Mod (.bin .FloorDiv (.var 1) (.lit (.int (10)))) (.lit (.int (3))))) (.var 7)) (.sub (.tup [(.lit (.str ⟨#[]⟩)), (.lit (.str ⟨#[9]⟩))]) (.bin .Mod (.bin .FloorDiv (.var 1) (.lit (.int (30)))) (.lit (.int (2)))))))]⟩
noncomputable def f_law_junk : CFn := ⟨Str.ofString "_law_junk", 1, [Str.ofString "number"], [
  (.ret (.sub (.tup [(.lit (.str ⟨#[]⟩)), (.lit (.str ⟨#[97, 98, 99]⟩)), (.lit (.str ⟨#[49, 95, 48]⟩)), (.lit (.str ⟨#[48, 120]⟩)), (.lit (.str ⟨#[116, 82, 117, 101]⟩)), (.lit (.str ⟨#[79, 70, 70]⟩)), (.lit (.str ⟨#[110]⟩)), (.lit (.str ⟨#[43]⟩)), (.lit (.str ⟨#[49, 46, 53]⟩)), (.lit (.str ⟨#[45, 32, 49]⟩)), (.lit (.str ⟨#[1635]⟩))]) (.bin .Mod (.var 0) (.lit (.int (11))))))]⟩
noncomputable def f_law_told : CFn := ⟨Str.ofString "_law_told", 2, [Str.ofString "op", Str.ofString "texts", Str.ofString "fault"], [
  (.catch [
    (.ite (.cmp .Eq (.len (.var 1)) (.lit (.int (1)))) [
      (.ret (.tup [(.lit (.int (0))), (.call 19 [(.var 0), (.sub (.var 1) (.lit (.int (0))))]), (.tup [])]))] []),
    (.ret (.tup [(.lit (.int (0))), (.call 29 [(.var 0), (.sub (.var 1) (.lit (.int (0)))), (.sub (.var 1) (.lit (.int (1))))]), (.tup [])]))])]⟩
noncomputable def f_law_good : CFn := ⟨Str.ofString "_law_good", 1, [Str.ofString "value"], [
  (.ret (.tup [(.lit (.int (0))), (.tostr (.var 0)), (.tup [])]))]⟩
noncomputable def f_law_unfit : CFn := ⟨Str.ofString "_law_unfit", 2, [Str.ofString "op", Str.ofString "text", Str.ofString "words"], [
  (.ite (.cmp .Eq (.var 1) (.lit (.str ⟨#[]⟩))) [
    (.ret (.tup [(.lit (.int (1))), (.bin .Add (.bin .Add (.lit (.str ⟨#[99, 97, 110, 39, 116, 32, 117, 115, 101, 32, 101, 109, 112, 116, 121, 32, 115, 116, 114, 105, 110, 103, 32, 97, 115, 32, 111, 112, 101, 114, 97, 110, 100, 32, 111, 102, 32, 34]⟩)) (.var 0)) (.lit (.str ⟨#[34]⟩))), (.tup [(.lit (.str ⟨#[65, 82, 73, 84, 72]⟩)), (.lit (.str ⟨#[68, 79, 77, 65, 73, 78]⟩)), (.lit (.str ⟨#[101, 109, 112, 116, 121, 32, 115, 116, 114, 105, 110, 103]⟩))])]))] []),
  (.assign 2 (.bin .Add (.bin .Add (.bin .Add (.bin .Add (.lit (.str ⟨#[99, 97, 110, 39, 116, 32, 117, 115, 101, 32, 110, 111, 110, 45, 110, 117, 109, 101, 114, 105, 99, 32, 115, 116, 114, 105, 110, 103, 32, 34]⟩)) (.var 1)) (.lit (.str ⟨#[34, 32, 97, 115, 32, 111, 112, 101, 114, 97, 110, 100, 32, 111, 102, 32, 34]⟩))) (.var 0)) (.lit (.str ⟨#[34]⟩)))),
  (.ret (.tup [(.lit (.int (1))), (.var 2), (.tup [(.lit (.str ⟨#[65, 82, 73, 84, 72]⟩)), (.lit (.str ⟨#[68, 79, 77, 65, 73, 78]⟩)), (.lit (.str ⟨#[110, 111, 110, 45, 110, 117, 109, 101, 114, 105, 99, 32, 115, 116, 114, 105, 110, 103]⟩))])]))]⟩
noncomputable def f_law_quotient : CFn := ⟨Str.ofString "_law_quotient", 2, [Str.ofString "x", Str.ofString "y", Str.ofString "parts", Str.ofString "rest", Str.ofString "times", Str.ofString "j"], [
  (.assign 2 (.lst [(.abs (.var 1))])),
  (.loop (.cmp .LtE (.sub (.var 2) (.bin .Sub (.len (.var 2)) (.lit (.int (1))))) (.abs (.var 0))) [
    (.append 2 (.bin .Mult (.lit (.int (2))) (.sub (.var 2) (.bin .Sub (.len (.var 2)) (.lit (.int (1)))))))]),
  (.assign 3 (.abs (.var 0))),
  (.assign 4 (.lit (.int (0)))),
  (.for1 5 (.rng (.len (.var 2))) [
    (.assign 4 (.bin .Mult (.lit (.int (2))) (.var 4))),
    (.ite (.cmp .LtE (.sub (.var 2) (.bin .Sub (.bin .Sub (.len (.var 2)) (.lit (.int (1)))) (.var 5))) (.var 3)) [
      (.assign 3 (.bin .Sub (.var 3) (.sub (.var 2) (.bin .Sub (.bin .Sub (.len (.var 2)) (.lit (.int (1)))) (.var 5))))),
      (.assign 4 (.bin .Add (.var 4) (.lit (.int (1)))))] [])]),
  (.ite (.cmp .Eq (.cmp .Lt (.var 0) (.lit (.int (0)))) (.cmp .Lt (.var 1) (.lit (.int (0))))) [
    (.ret (.var 4))] []),
  (.ret (.ife (.cmp .Eq (.var 3) (.lit (.int (0)))) (.neg (.var 4)) (.bin .Sub (.neg (.var 4)) (.lit (.int (1))))))]⟩
noncomputable def f_law_power : CFn := ⟨Str.ofString "_law_power", 2, [Str.ofString "x", Str.ofString "y", Str.ofString "why", Str.ofString "total", Str.ofString "j"], [
  (.ite (.boolop true [(.cmp .Eq (.var 0) (.lit (.int (0)))), (.cmp .Lt (.var 1) (.lit (.int (0))))]) [
    (.assign 2 (.lit (.str ⟨#[101, 120, 112, 111, 110, 101, 110, 116, 105, 97, 116, 105, 111, 110, 32, 111, 102, 32, 122, 101, 114, 111, 32, 98, 121, 32, 110, 101, 103, 97, 116, 105, 118, 101, 32, 112, 111, 119, 101, 114]⟩))),
    (.ret (.tup [(.lit (.int (1))), (.var 2), (.tup [(.lit (.str ⟨#[65, 82, 73, 84, 72]⟩)), (.lit (.str ⟨#[68, 79, 77, 65, 73, 78]⟩)), (.var 2)])]))] []),
  (.ite (.boolop false [(.cmp .Eq (.var 0) (.lit (.int (1)))), (.boolop true [(.cmp .Eq (.var 0) (.neg (.lit (.int (1))))), (.cmp .Eq (.bin .Mod (.var 1) (.lit (.int (2)))) (.lit (.int (0))))])]) [
    (.ret (.call 36 [(.lit (.int (1)))]))] []),
  (.ite (.cmp .Eq (.var 0) (.neg (.lit (.int (1))))) [
    (.ret (.call 36 [(.neg (.lit (.int (1))))]))] []),
  (.ite (.cmp .Lt (.var 1) (.lit (.int (0)))) [
    (.ret (.call 36 [(.lit (.int (0)))]))] []),
  (.ite (.cmp .Eq (.var 0) (.lit (.int (0)))) [
    (.ret (.call 36 [(.ife (.cmp .Eq (.var 1) (.lit (.int (0)))) (.lit (.int (1))) (.lit (.int (0))))]))] []),
  (.ite (.cmp .GtE (.var 1) (.bin .Pow (.lit (.int (2))) (.lit (.int (28))))) [
    (.ret (.tup [(.lit (.int (1))), (.lit (.str ⟨#[101, 120, 112, 111, 110, 101, 110, 116, 32, 116, 111, 111, 32, 108, 97, 114, 103, 101]⟩)), (.tup [(.lit (.str ⟨#[78, 79, 78, 69]⟩))])]))] []),
  (.assign 3 (.lit (.int (1)))),
  (.for1 4 (.rng (.var 1)) [
    (.assign 3 (.bin .Mult (.var 3) (.var 0)))]),
  (.ret (.call 36 [(.var 3)]))]⟩
noncomputable def f_law_shift : CFn := ⟨Str.ofString "_law_shift", 3, [Str.ofString "op", Str.ofString "x", Str.ofString "y", Str.ofString "why"], [
  (.ite (.cmp .Lt (.var 2) (.lit (.int (0)))) [
    (.ret (.tup [(.lit (.int (1))), (.lit (.str ⟨#[110, 101, 103, 97, 116, 105, 118, 101, 32, 115, 104, 105, 102, 116, 32, 97, 114, 103, 117, 109, 101, 110, 116]⟩)), (.tup [(.lit (.str ⟨#[65, 82, 73, 84, 72]⟩)), (.lit (.str ⟨#[68, 79, 77, 65, 73, 78]⟩)), (.lit (.str ⟨#[100, 111, 109, 97, 105, 110, 32, 101, 114, 114, 111, 114, 58, 32, 97, 114, 103, 117, 109, 101, 110, 116, 32, 110, 111, 116, 32, 105, 110, 32, 118, 97, 108, 105, 100, 32, 114, 97, 110, 103, 101]⟩))])]))] []),
  (.ite (.cmp .Eq (.var 1) (.lit (.int (0)))) [
    (.ret (.call 36 [(.lit (.int (0)))]))] []),
  (.ite (.boolop true [(.cmp .Eq (.var 0) (.lit (.str ⟨#[60, 60]⟩))), (.cmp .GtE (.var 2) (.bin .Pow (.lit (.int (2))) (.lit (.int (31)))))]) [
    (.assign 3 (.lit (.str ⟨#[105, 110, 116, 101, 103, 101, 114, 32, 118, 97, 108, 117, 101, 32, 116, 111, 111, 32, 108, 97, 114, 103, 101, 32, 116, 111, 32, 114, 101, 112, 114, 101, 115, 101, 110, 116]⟩))),
    (.ret (.tup [(.lit (.int (1))), (.var 3), (.tup [(.lit (.str ⟨#[65, 82, 73, 84, 72]⟩)), (.lit (.str ⟨#[73, 79, 86, 69, 82, 70, 76, 79, 87]⟩)), (.var 3)])]))] []),
  (.loop (.boolop true [(.cmp .Gt (.var 2) (.lit (.int (0)))), (.boolop false [(.cmp .Eq (.var 0) (.lit (.str ⟨#[60, 60]⟩))), (.cmp .NotIn (.var 1) (.tup [(.lit (.int (0))), (.neg (.lit (.int (1))))]))])]) [
    (.assign 1 (.ife (.cmp .Eq (.var 0) (.lit (.str ⟨#[60, 60]⟩))) (.bin .Mult (.lit (.int (2))) (.var 1)) (.bin .FloorDiv (.var 1) (.lit (.int (2)))))),
    (.assign 2 (.bin .Sub (.var 2) (.lit (.int (1)))))]),
  (.ret (.call 36 [(.var 1)]))]⟩
noncomputable def f_law_bit : CFn := ⟨Str.ofString "_law_bit", 3, [Str.ofString "op", Str.ofString "one", Str.ofString "two"], [
  (.ite (.cmp .Eq (.var 0) (.lit (.str ⟨#[38]⟩))) [
    (.ret (.bin .Mult (.var 1) (.var 2)))] []),
  (.ret (.ife (.cmp .Eq (.var 0) (.lit (.str ⟨#[124]⟩))) (.max2 (.var 1) (.var 2)) (.bin .Mod (.bin .Add (.var 1) (.var 2)) (.lit (.int (2))))))]⟩
noncomputable def f_law_bits : CFn := ⟨Str.ofString "_law_bits", 3, [Str.ofString "op", Str.ofString "x", Str.ofString "y", Str.ofString "total", Str.ofString "weight"], [
  (.assign 3 (.lit (.int (0)))),
  (.assign 4 (.lit (.int (1)))),
  (.loop (.boolop false [(.cmp .NotIn (.var 1) (.tup [(.lit (.int (0))), (.neg (.lit (.int (1))))])), (.cmp .NotIn (.var 2) (.tup [(.lit (.int (0))), (.neg (.lit (.int (1))))]))]) [
    (.assign 3 (.bin .Add (.var 3) (.bin .Mult (.var 4) (.call 41 [(.var 0), (.bin .Mod (.var 1) (.lit (.int (2)))), (.bin .Mod (.var 2) (.lit (.int (2))))])))),
    (.assign 4 (.bin .Mult (.lit (.int (2))) (.var 4))),
    (.assign 1 (.bin .FloorDiv (.var 1) (.lit (.int (2))))),
    (.assign 2 (.bin .FloorDiv (.var 2) (.lit (.int (2)))))]),
  (.ret (.bin .Sub (.var 3) (.bin .Mult (.var 4) (.call 41 [(.var 0), (.bin .Mod (.var 1) (.lit (.int (2)))), (.bin .Mod (.var 2) (.lit (.int (2))))]))))]⟩
noncomputable def f_law_due : CFn := ⟨Str.ofString "_law_due", 3, [Str.ofString "op", Str.ofString "x", Str.ofString "y", Str.ofString "quotient"], [
  (.ite (.cmp .In (.var 0) (.tup [(.lit (.str ⟨#[47]⟩)), (.lit (.str ⟨#[37]⟩))])) [
    (.ite (.cmp .Eq (.var 2) (.lit (.int (0)))) [
      (.ret (.tup [(.lit (.int (1))), (.lit (.str ⟨#[100, 105, 118, 105, 100, 101, 32, 98, 121, 32, 122, 101, 114, 111]⟩)), (.tup [(.lit (.str ⟨#[65, 82, 73, 84, 72]⟩)), (.lit (.str ⟨#[68, 73, 86, 90, 69, 82, 79]⟩)), (.lit (.str ⟨#[100, 105, 118, 105, 100, 101, 32, 98, 121, 32, 122, 101, 114, 111]⟩))])]))] []),
    (.assign 3 (.call 38 [(.var 1), (.var 2)])),
    (.ret (.call 36 [(.ife (.cmp .Eq (.var 0) (.lit (.str ⟨#[47]⟩))) (.var 3) (.bin .Sub (.var 1) (.bin .Mult (.var 3) (.var 2))))]))] []),
  (.ite (.cmp .Eq (.var 0) (.lit (.str ⟨#[42, 42]⟩))) [
    (.ret (.call 39 [(.var 1), (.var 2)]))] []),
  (.ite (.cmp .In (.var 0) (.tup [(.lit (.str ⟨#[60, 60]⟩)), (.lit (.str ⟨#[62, 62]⟩))])) [
    (.ret (.call 40 [(.var 0), (.var 1), (.var 2)]))] []),
  (.ite (.cmp .In (.var 0) (.tup [(.lit (.str ⟨#[38]⟩)), (.lit (.str ⟨#[124]⟩)), (.lit (.str ⟨#[94]⟩))])) [
    (.ret (.call 36 [(.call 42 [(.var 0), (.var 1), (.var 2)])]))] []),
  (.ite (.cmp .Eq (.var 0) (.lit (.str ⟨#[42]⟩))) [
    (.ret (.call 36 [(.bin .Mult (.var 1) (.var 2))]))] []),
  (.ret (.call 36 [(.ife (.cmp .Eq (.var 0) (.lit (.str ⟨#[43]⟩))) (.bin .Add (.var 1) (.var 2)) (.bin .Sub (.var 1) (.var 2)))]))]⟩
noncomputable def f_law_kept : CFn := ⟨Str.ofString "_law_kept", 2, [Str.ofString "op", Str.ofString "y", Str.ofString "great", Str.ofString "most"], [
  (.assignT [2, 3] (.ife (.cmp .Eq (.var 0) (.lit (.str ⟨#[42, 42]⟩))) (.tup [(.bin .Pow (.lit (.int (2))) (.lit (.int (28)))), (.lit (.int (24)))]) (.tup [(.bin .Pow (.lit (.int (2))) (.lit (.int (31)))), (.lit (.int (70)))]))),
  (.ite (.boolop false [(.cmp .NotIn (.var 0) (.tup [(.lit (.str ⟨#[42, 42]⟩)), (.lit (.str ⟨#[60, 60]⟩))])), (.cmp .GtE (.abs (.var 1)) (.var 2))]) [
    (.ret (.var 1))] []),
  (.ret (.ife (.cmp .Gt (.var 1) (.lit (.int (0)))) (.bin .Mod (.var 1) (.var 3)) (.neg (.bin .Mod (.neg (.var 1)) (.var 3)))))]⟩
noncomputable def f_law_order : CFn := ⟨Str.ofString "_law_order", 3, [Str.ofString "a", Str.ofString "b", Str.ofString "is_whole", Str.ofString "one", Str.ofString "x", Str.ofString "two", Str.ofString "y", Str.ofString "j"], [
  (.assignT [3, 4] (.var 0)),
  (.assignT [5, 6] (.var 1)),
  (.ite (.boolop true [(.var 2), (.cmp .IsNot (.var 4) (.lit .none)), (.cmp .IsNot (.var 6) (.lit .none))]) [
    (.ret (.ife (.cmp .Eq (.var 4) (.var 6)) (.lit (.int (0))) (.ife (.cmp .Lt (.var 4) (.var 6)) (.neg (.lit (.int (1)))) (.lit (.int (1))))))] []),
  (.for1 7 (.rng (.min2 (.len (.var 3)) (.len (.var 5)))) [
    (.ite (.cmp .NotEq (.sub (.var 3) (.var 7)) (.sub (.var 5) (.var 7))) [
      (.ret (.ife (.cmp .Lt (.ord (.sub (.var 3) (.var 7))) (.ord (.sub (.var 5) (.var 7)))) (.neg (.lit (.int (1)))) (.lit (.int (1)))))] [])]),
  (.ret (.ife (.cmp .Eq (.len (.var 3)) (.len (.var 5))) (.lit (.int (0))) (.ife (.cmp .Lt (.len (.var 3)) (.len (.var 5))) (.neg (.lit (.int (1)))) (.lit (.int (1))))))]⟩
noncomputable def f_law : CFn := ⟨Str.ofString "law", 1, [Str.ofString "script", Str.ofString "ops", Str.ofString "rows", Str.ofString "j", Str.ofString "x", Str.ofString "y", Str.ofString "n", Str.ofString "op", Str.ofString "way", Str.ofString "k", Str.ofString "number", Str.ofString "which", Str.ofString "left", Str.ofString "right", Str.ofString "due", Str.ofString "junk", Str.ofString "answers", Str.ofString "other", Str.ofString "first", Str.ofString "second", Str.ofString "third", Str.ofString "fourth", Str.ofString "a", Str.ofString "b", Str.ofString "pool", Str.ofString "items", Str.ofString "text", Str.ofString "item", Str.ofString "is_bare", Str.ofString "needle"], [
  (.assign 1 (.tup [(.lit (.str ⟨#[43]⟩)), (.lit (.str ⟨#[45]⟩)), (.lit (.str ⟨#[42]⟩)), (.lit (.str ⟨#[47]⟩)), (.lit (.str ⟨#[37]⟩)), (.lit (.str ⟨#[42, 42]⟩)), (.lit (.str ⟨#[60, 60]⟩)), (.lit (.str ⟨#[62, 62]⟩)), (.lit (.str ⟨#[38]⟩)), (.lit (.str ⟨#[124]⟩)), (.lit (.str ⟨#[94]⟩))])),
  (.assign 2 (.lst [])),
  (.for1 3 (.rng (.lit (.int (11)))) [
    (.assign 4 (.call 31 [(.call 30 [(.var 0), (.var 3)]), (.var 3)])),
    (.assign 5 (.call 31 [(.call 30 [(.var 0), (.bin .Add (.var 3) (.lit (.int (11))))]), (.bin .Add (.var 3) (.lit (.int (5))))])),
    (.append 2 (.tup [(.sub (.var 1) (.var 3)), (.var 4), (.var 5)])),
    (.ite (.cmp .In (.var 3) (.tup [(.lit (.int (1))), (.lit (.int (3))), (.lit (.int (4))), (.lit (.int (5))), (.lit (.int (6))), (.lit (.int (7)))])) [
      (.append 2 (.tup [(.sub (.var 1) (.var 3)), (.var 5), (.var 4)]))] [])]),
  (.assign 4 (.call 31 [(.call 30 [(.var 0), (.lit (.int (0)))]), (.lit (.int (0)))])),
  (.assign 6 (.abs (.bin .Sub (.call 32 [(.call 30 [(.var 0), (.lit (.int (1)))])]) (.lit (.int (17)))))),
  (.assign 2 (.bin .Add (.var 2) (.lst [(.tup [(.lit (.str ⟨#[47]⟩)), (.var 4), (.lit (.int (0)))]), (.tup [(.lit (.str ⟨#[37]⟩)), (.var 4), (.lit (.int (0)))]), (.tup [(.lit (.str ⟨#[42, 42]⟩)), (.lit (.int (0))), (.bin .Sub (.neg (.lit (.int (1)))) (.var 6))]), (.tup [(.lit (.str ⟨#[42, 42]⟩)), (.var 4), (.bin .Sub (.neg (.lit (.int (1)))) (.var 6))]), (.tup [(.lit (.str ⟨#[42, 42]⟩)), (.var 4), (.bin .Pow (.lit (.int (2))) (.lit (.int (28))))])]))),
  (.assign 2 (.bin .Add (.var 2) (.lst [(.tup [(.lit (.str ⟨#[42, 42]⟩)), (.neg (.lit (.int (1)))), (.bin .Add (.bin .Pow (.lit (.int (2))) (.lit (.int (28)))) (.var 6))]), (.tup [(.lit (.str ⟨#[42, 42]⟩)), (.lit (.int (0))), (.var 6)]), (.tup [(.lit (.str ⟨#[42, 42]⟩)), (.neg (.lit (.int (1)))), (.neg (.var 6))]), (.tup [(.lit (.str ⟨#[60, 60]⟩)), (.var 4), (.bin .Sub (.neg (.lit (.int (1)))) (.var 6))]), (.tup [(.lit (.str ⟨#[60, 60]⟩)), (.var 4), (.bin .Pow (.lit (.int (2))) (.lit (.int (31))))])]))),
  (.assign 2 (.bin .Add (.var 2) (.lst [(.tup [(.lit (.str ⟨#[60, 60]⟩)), (.lit (.int (0))), (.bin .Add (.bin .Pow (.lit (.int (2))) (.lit (.int (31)))) (.var 6))]), (.tup [(.lit (.str ⟨#[62, 62]⟩)), (.var 4), (.bin .Add (.bin .Pow (.lit (.int (2))) (.lit (.int (31)))) (.var 6))]), (.tup [(.lit (.str ⟨#[62, 62]⟩)), (.bin .Sub (.neg (.lit (.int (1)))) (.var 6)), (.var 6)])]))),
  (.for1 3 (.rng (.len (.var 2))) [
    (.assignT [7, 4, 5] (.sub (.var 2) (.var 3))),
    (.assign 5 (.call 44 [(.var 7), (.var 5)])),
    (.assign 8 (.call 30 [(.var 0), (.var 3)])),
    (.ite (.cmp .NotEq (.call 35 [(.var 7), (.tup [(.call 33 [(.var 4), (.bin .Add (.var 8) (.var 3))]), (.call 33 [(.var 5), (.bin .Add (.bin .FloorDiv (.var 8) (.lit (.int (60)))) (.bin .Mult (.lit (.int (2))) (.var 3)))])])]) (.call 43 [(.var 7), (.var 4), (.var 5)])) [
      (.ret (.lit (.bool false)))] [])]),
  (.for1 9 (.rng (.lit (.int (6)))) [
    (.assign 10 (.call 30 [(.var 0), (.var 9)])),
    (.assign 7 (.sub (.var 1) (.bin .Mod (.bin .Add (.var 10) (.bin .Mult (.lit (.int (2))) (.var 9))) (.lit (.int (11)))))),
    (.assign 11 (.bin .Mod (.bin .Add (.bin .FloorDiv (.var 10) (.lit (.int (11)))) (.var 9)) (.lit (.int (3))))),
    (.assign 12 (.call 34 [(.bin .Add (.bin .FloorDiv (.var 10) (.lit (.int (33)))) (.var 9))])),
    (.assign 13 (.call 34 [(.bin .Add (.bin .Add (.bin .FloorDiv (.var 10) (.lit (.int (5)))) (.bin .Mult (.lit (.int (3))) (.var 9))) (.lit (.int (1))))])),
    (.ite (.cmp .Eq (.var 11) (.lit (.int (1)))) [
      (.assign 12 (.call 33 [(.call 31 [(.var 10), (.var 9)]), (.var 9)]))] []),
    (.ite (.cmp .Eq (.var 11) (.lit (.int (0)))) [
      (.assign 13 (.call 33 [(.call 31 [(.var 10), (.var 9)]), (.var 9)]))] []),
    (.ite (.cmp .NotEq (.call 35 [(.var 7), (.tup [(.var 12), (.var 13)])]) (.call 37 [(.var 7), (.ife (.cmp .Eq (.var 11) (.lit (.int (1)))) (.var 13) (.var 12))])) [
      (.ret (.lit (.bool false)))] [])]),
  (.for1 9 (.rng (.lit (.int (6)))) [
    (.assign 10 (.call 30 [(.var 0), (.var 9)])),
    (.assign 7 (.sub (.lit (.str ⟨#[45, 43, 126, 33, 33, 33]⟩)) (.var 9))),
    (.assign 4 (.ife (.cmp .Eq (.var 9) (.lit (.int (5)))) (.lit (.int (0))) (.call 31 [(.var 10), (.bin .Add (.var 9) (.lit (.int (3))))]))),
    (.assign 14 (.call 36 [(.sub (.tup [(.neg (.var 4)), (.var 4), (.bin .Sub (.neg (.var 4)) (.lit (.int (1)))), (.ife (.cmp .Eq (.var 4) (.lit (.int (0)))) (.lit (.int (1))) (.lit (.int (0))))]) (.min2 (.var 9) (.lit (.int (3)))))])),
    (.ite (.cmp .NotEq (.call 35 [(.var 7), (.tup [(.call 33 [(.var 4), (.bin .Add (.var 10) (.var 9))])])]) (.var 14)) [
      (.ret (.lit (.bool false)))] []),
    (.assign 15 (.call 34 [(.bin .Add (.bin .Add (.var 10) (.var 9)) (.lit (.int (1))))])),
    (.assign 14 (.call 37 [(.var 7), (.var 15)])),
    (.ite (.boolop true [(.cmp .Eq (.var 7) (.lit (.str ⟨#[33]⟩))), (.cmp .In (.var 15) (.tup [(.lit (.str ⟨#[116, 82, 117, 101]⟩)), (.lit (.str ⟨#[79, 70, 70]⟩)), (.lit (.str ⟨#[110]⟩))]))]) [
      (.assign 14 (.call 36 [(.ife (.cmp .Eq (.var 15) (.lit (.str ⟨#[116, 82, 117, 101]⟩))) (.lit (.int (0))) (.lit (.int (1))))]))] []),
    (.ite (.cmp .NotEq (.call 35 [(.var 7), (.tup [(.var 15)])]) (.var 14)) [
      (.ret (.lit (.bool false)))] [])]),
  (.for1 9 (.rng (.lit (.int (12)))) [
    (.assign 7 (.sub (.tup [(.lit (.str ⟨#[61, 61]⟩)), (.lit (.str ⟨#[33, 61]⟩)), (.lit (.str ⟨#[60]⟩)), (.lit (.str ⟨#[60, 61]⟩)), (.lit (.str ⟨#[62]⟩)), (.lit (.str ⟨#[62, 61]⟩)), (.lit (.str ⟨#[101, 113]⟩)), (.lit (.str ⟨#[110, 101]⟩)), (.lit (.str ⟨#[108, 116]⟩)), (.lit (.str ⟨#[108, 101]⟩)), (.lit (.str ⟨#[103, 116]⟩)), (.lit (.str ⟨#[103, 101]⟩))]) (.var 9))),
    (.assign 16 (.sub (.tup [(.lit (.str ⟨#[48, 49, 48]⟩)), (.lit (.str ⟨#[49, 48, 49]⟩)), (.lit (.str ⟨#[49, 48, 48]⟩)), (.lit (.str ⟨#[49, 49, 48]⟩)), (.lit (.str ⟨#[48, 48, 49]⟩)), (.lit (.str ⟨#[48, 49, 49]⟩))]) (.bin .Mod (.var 9) (.lit (.int (6)))))),
    (.assign 10 (.call 30 [(.var 0), (.var 9)])),
    (.assign 17 (.call 30 [(.var 0), (.bin .Add (.var 9) (.lit (.int (1))))])),
    (.assign 4 (.bin .Sub (.bin .Add (.call 32 [(.var 10)]) (.bin .Mult (.lit (.int (2))) (.var 9))) (.lit (.int (9))))),
    (.assign 5 (.bin .Sub (.bin .Add (.call 32 [(.var 17)]) (.lit (.int (5)))) (.var 9))),
    (.assign 18 (.tup [(.call 33 [(.var 4), (.bin .Add (.var 10) (.var 9))]), (.var 4)])),
    (.assign 19 (.tup [(.call 33 [(.var 5), (.bin .Add (.bin .FloorDiv (.var 17) (.lit (.int (3)))) (.bin .Mult (.lit (.int (2))) (.var 9)))]), (.var 5)])),
    (.assign 20 (.tup [(.call 33 [(.var 4), (.bin .Add (.bin .Add (.var 10) (.var 9)) (.lit (.int (1))))]), (.var 4)])),
    (.assign 21 (.tup [(.call 34 [(.bin .Add (.bin .FloorDiv (.var 10) (.lit (.int (4)))) (.var 9))]), (.lit .none)])),
    (.forT [22, 23] (.val (.tup [(.tup [(.var 18), (.var 19)]), (.tup [(.var 20), (.var 18)]), (.tup [(.var 21), (.var 19)])])) [
      (.ite (.cmp .NotEq (.call 35 [(.var 7), (.tup [(.sub (.var 22) (.lit (.int (0)))), (.sub (.var 23) (.lit (.int (0))))])]) (.call 36 [(.sub (.var 16) (.bin .Add (.call 45 [(.var 22), (.var 23), (.cmp .Lt (.var 9) (.lit (.int (6))))]) (.lit (.int (1)))))])) [
        (.ret (.lit (.bool false)))] [])])]),
  (.for1 9 (.rng (.lit (.int (6)))) [
    (.assign 10 (.call 30 [(.var 0), (.bin .Add (.var 9) (.lit (.int (2))))])),
    (.assign 24 (.tup [(.lit (.str ⟨#[97]⟩)), (.lit (.str ⟨#[48, 120, 49]⟩)), (.lit (.str ⟨#[49]⟩)), (.lit (.str ⟨#[]⟩)), (.lit (.str ⟨#[98, 32, 99]⟩)), (.lit (.str ⟨#[48, 49]⟩))])),
    (.assign 25 (.lst [])),
    (.assign 26 (.lit (.str ⟨#[]⟩))),
    (.for1 3 (.rng (.bin .Add (.lit (.int (1))) (.bin .Mod (.bin .Add (.bin .FloorDiv (.var 10) (.lit (.int (7)))) (.var 9)) (.lit (.int (3)))))) [
      (.assign 27 (.sub (.var 24) (.bin .Mod (.bin .Add (.bin .Add (.bin .FloorDiv (.bin .FloorDiv (.var 10) (.lit (.int (21)))) (.bin .Pow (.lit (.int (6))) (.var 3))) (.var 9)) (.var 3)) (.lit (.int (6)))))),
      (.append 25 (.var 27)),
      (.assign 28 (.boolop true [(.cmp .NotIn (.var 27) (.tup [(.lit (.str ⟨#[]⟩)), (.lit (.str ⟨#[98, 32, 99]⟩))])), (.cmp .Eq (.bin .Mod (.bin .Add (.bin .FloorDiv (.var 10) (.lit (.int (3)))) (.var 3)) (.lit (.int (2)))) (.lit (.int (0))))])),
      (.assign 26 (.bin .Add (.var 26) (.ife (.cmp .Eq (.var 3) (.lit (.int (0)))) (.lit (.str ⟨#[]⟩)) (.sub (.tup [(.lit (.str ⟨#[32]⟩)), (.lit (.str ⟨#[9, 32]⟩)), (.lit (.str ⟨#[10]⟩))]) (.bin .Mod (.bin .Add (.var 10) (.var 3)) (.lit (.int (3)))))))),
      (.assign 26 (.bin .Add (.var 26) (.ife (.var 28) (.var 27) (.bin .Add (.bin .Add (.lit (.str ⟨#[123]⟩)) (.var 27)) (.lit (.str ⟨#[125]⟩))))))]),
    (.assign 29 (.sub (.var 24) (.bin .Mod (.bin .Add (.bin .FloorDiv (.var 10) (.lit (.int (2)))) (.sub (.tup [(.lit (.int (0))), (.lit (.int (1))), (.lit (.int (0))), (.lit (.int (2))), (.lit (.int (1))), (.lit (.int (3)))]) (.var 9))) (.lit (.int (6)))))),
    (.assign 7 (.sub (.tup [(.lit (.str ⟨#[105, 110]⟩)), (.lit (.str ⟨#[110, 105]⟩))]) (.bin .Mod (.var 9) (.lit (.int (2)))))),
    (.assign 14 (.call 36 [(.ife (.cmp .Eq (.cmp .In (.var 29) (.var 25)) (.cmp .Eq (.var 7) (.lit (.str ⟨#[105, 110]⟩)))) (.lit (.int (1))) (.lit (.int (0))))])),
    (.ite (.cmp .Eq (.bin .Mod (.bin .Add (.var 10) (.var 9)) (.lit (.int (4)))) (.lit (.int (3)))) [
      (.assign 26 (.bin .Add (.var 26) (.lit (.str ⟨#[32, 123, 120]⟩)))),
      (.assign 14 (.tup [(.lit (.int (1))), (.lit (.str ⟨#[117, 110, 109, 97, 116, 99, 104, 101, 100, 32, 111, 112, 101, 110, 32, 98, 114, 97, 99, 101, 32, 105, 110, 32, 108, 105, 115, 116]⟩)), (.tup [(.lit (.str ⟨#[84, 67, 76]⟩)), (.lit (.str ⟨#[86, 65, 76, 85, 69]⟩)), (.lit (.str ⟨#[76, 73, 83, 84]⟩)), (.lit (.str ⟨#[66, 82, 65, 67, 69]⟩))])]))] []),
    (.ite (.cmp .NotEq (.call 35 [(.var 7), (.tup [(.var 29), (.var 26)])]) (.var 14)) [
      (.ret (.lit (.bool false)))] [])]),
  (.ret (.lit (.bool true)))]⟩

noncomputable def fnames : List Str := [Str.ofString "error", Str.ofString "is_blank", Str.ofString "digit", Str.ofString "digits_value", Str.ofString "base_of", Str.ofString "whole_of", Str.ofString "bool_of", Str.ofString "text_of", Str.ofString "hex_sign", Str.ofString "octal_sign", Str.ofString "backslash", Str.ofString "check_behind", Str.ofString "braced_element", Str.ofString "quoted_element", Str.ofString "bare_element", Str.ofString "find_element", Str.ofString "split_list", Str.ofString "operand_fault", Str.ofString "operand", Str.ofString "unary", Str.ofString "need_divisor", Str.ofString "power", Str.ofString "need_count", Str.ofString "shifted_left", Str.ofString "shifted_right", Str.ofString "arithmetic", Str.ofString "text_order", Str.ofString "order_of", Str.ofString "relation", Str.ofString "binary", Str.ofString "_law_number", Str.ofString "_law_value", Str.ofString "_law_small", Str.ofString "_law_written", Str.ofString "_law_junk", Str.ofString "_law_told", Str.ofString "_law_good", Str.ofString "_law_unfit", Str.ofString "_law_quotient", Str.ofString "_law_power", Str.ofString "_law_shift", Str.ofString "_law_bit", Str.ofString "_law_bits", Str.ofString "_law_due", Str.ofString "_law_kept", Str.ofString "_law_order", Str.ofString "law"]
noncomputable def fnOf (x : Str) : Option Nat := fnames.idxOf? x
noncomputable def tbl : Nat → Option CFn
  | 1 => some f_is_blank
  | 2 => some f_digit
  | 3 => some f_digits_value
  | 4 => some f_base_of
  | 5 => some f_whole_of
  | 6 => some f_bool_of
  | 7 => some f_text_of
  | 11 => some f_check_behind
  | 12 => some f_braced_element
  | 13 => some f_quoted_element
  | 14 => some f_bare_element
  | 15 => some f_find_element
  | 16 => some f_split_list
  | 17 => some f_operand_fault
  | 18 => some f_operand
  | 19 => some f_unary
  | 20 => some f_need_divisor
  | 21 => some f_power
  | 22 => some f_need_count
  | 23 => some f_shifted_left
  | 24 => some f_shifted_right
  | 25 => some f_arithmetic
  | 26 => some f_text_order
  | 27 => some f_order_of
  | 28 => some f_relation
  | 29 => some f_binary
  | 30 => some f_law_number
  | 31 => some f_law_value
  | 32 => some f_law_small
  | 33 => some f_law_written
  | 34 => some f_law_junk
  | 35 => some f_law_told
  | 36 => some f_law_good
  | 37 => some f_law_unfit
  | 38 => some f_law_quotient
  | 39 => some f_law_power
  | 40 => some f_law_shift
  | 41 => some f_law_bit
  | 42 => some f_law_bits
  | 43 => some f_law_due
  | 44 => some f_law_kept
  | 45 => some f_law_order
  | 46 => some f_law
  | _ => none
end NP
end
section
open PySem PySem.Calls PyProof.Rows PySem.W PySem.Spec
set_option maxRecDepth 100000
namespace NP


noncomputable def fin : Option (Out (SO Store)) → Option (Out TV)
  | some (.ok (.ret v)) => some (.ok v)
  | some (.ok (.next _)) => some (.ok (.val .none))
  | some (.exc t e) => some (.exc t e)
  | none => none
noncomputable def areVals (args : List TV) : Bool := args.all fun v => match v with | .val _ => true | _ => false
theorem ev_fn {d i : Nat} {c : CFn} {args : List TV} (h : tbl i = some c) (hi : i ≠ 0) (h1 : args.length = c.np) (h2 : areVals args = true) :
    evCall tbl 1000 (d + 1) i args = fin (evSs (evCall tbl 1000 d) 1000 c.body (args.map some ++ List.replicate (c.nm.length - c.np) none)) := by
  have h2' : (args.all fun v => match v with | .val _ => true | _ => false) = true := h2
  rw [evCall, if_neg (show ¬ i = fidError from hi), h]
  show runFn _ _ _ _ = _
  unfold runFn
  rw [if_pos ⟨h1, h2'⟩]
  unfold fin
  cases evSs (evCall tbl 1000 d) 1000 c.body (args.map some ++ List.replicate (c.nm.length - c.np) none) with
  | none => rfl
  | some o => cases o with
    | exc t e => rfl
    | ok a => cases a <;> rfl
theorem ev_err {d : Nat} {args : List TV} : evCall tbl 1000 (d + 1) 0 args = errorP args := rfl

section
variable {Φ : Nat → List TV → Option (Out TV)} {N : Nat} {σ : Store} {α β : Type}
@[simp] theorem eb_ok (a : α) (f : α → Option (Out β)) : ebind (some (.ok a)) f = f a := rfl
@[simp] theorem eb_exc (t : Str) (e : PyData) (f : α → Option (Out β)) : ebind (some (.exc t e) : Option (Out α)) f = some (.exc t e) := rfl
@[simp] theorem lift_some (a : α) : lift (some a) = some (.ok a) := rfl
@[simp] theorem fin_ret (v : TV) : fin (some (.ok (.ret v))) = some (.ok v) := rfl
@[simp] theorem fin_next (s : Store) : fin (some (.ok (.next s))) = some (.ok (.val .none)) := rfl
@[simp] theorem fin_exc (t : Str) (e : PyData) : fin (some (.exc t e)) = some (.exc t e) := rfl
@[simp] theorem sb_next (s : Store) (g : Store → Option (Out (SO Store))) : sbindQ (some (.ok (.next s))) g = g s := rfl
@[simp] theorem sb_ret (v : TV) (g : Store → Option (Out (SO Store))) : sbindQ (some (.ok (.ret v))) g = some (.ok (.ret v)) := rfl
@[simp] theorem sb_exc (t : Str) (e : PyData) (g : Store → Option (Out (SO Store))) : sbindQ (some (.exc t e)) g = some (.exc t e) := rfl
@[simp] theorem ss_nil : evSs Φ N [] σ = some (.ok (.next σ)) := rfl
@[simp] theorem ss_cons (c : CS) (cs : List CS) : evSs Φ N (c :: cs) σ = sbindQ (evS Φ N c σ) (evSs Φ N cs) := rfl
theorem ss_append (a b : List CS) : evSs Φ N (a ++ b) σ = sbindQ (evSs Φ N a σ) (evSs Φ N b) := by
  induction a generalizing σ with
  | nil => rw [ss_nil]; rfl
  | cons c a ih =>
    rw [List.cons_append, ss_cons, ss_cons]
    cases evS Φ N c σ with
    | none => rfl
    | some o => cases o with
      | exc t ec => rfl
      | ok x => cases x with
        | next s => exact ih
        | ret v => rfl
@[simp] theorem s_ite (t : CE) (a b : List CS) : evS Φ N (.ite t a b) σ = ebind (evT Φ t σ) fun c => if c = true then evSs Φ N a σ else evSs Φ N b σ := rfl
@[simp] theorem s_assign (i : Nat) (e : CE) : evS Φ N (.assign i e) σ = ebind (evE Φ e σ) fun v => if keepable v = true then some (.ok (.next (sset σ i v))) else none := rfl
@[simp] theorem s_ret (e : CE) : evS Φ N (.ret e) σ = ebind (evE Φ e σ) fun v => some (.ok (.ret (view v))) := rfl
theorem s_loop (t : CE) (b : List CS) : evS Φ N (.loop t b) σ = loopP (evT Φ t) (evSs Φ N b) N σ := rfl
theorem s_for1 (i : Nat) (it : CIt) (b : List CS) : evS Φ N (.for1 i it b) σ = ebind (evIt Φ it σ) fun xs => forP (fun d σ => evSs Φ N b (sset σ i (.val d))) xs σ := rfl
theorem loop_succ {t : Store → Option (Out Bool)} {body : Store → Option (Out (SO Store))} {k : Nat} {σ : Store} : loopP t body (k + 1) σ = ebind (t σ) fun b => if b = true then sbindQ (body σ) (loopP t body k) else some (.ok (.next σ)) := rfl
@[simp] theorem for_nil {body : PyData → Store → Option (Out (SO Store))} {σ : Store} : forP body [] σ = some (.ok (.next σ)) := rfl
@[simp] theorem for_cons {body : PyData → Store → Option (Out (SO Store))} {d : PyData} {r : List PyData} {σ : Store} : forP body (d :: r) σ = sbindQ (body d σ) (forP body r) := rfl
@[simp] theorem e_ife (t a b : CE) : evE Φ (.ife t a b) σ = ebind (evT Φ t σ) fun c => if c = true then evE Φ a σ else evE Φ b σ := rfl
@[simp] theorem t_ife (t a b : CE) : evT Φ (.ife t a b) σ = ebind (evT Φ t σ) fun c => if c = true then evT Φ a σ else evT Φ b σ := rfl
@[simp] theorem eb_if {p : Prop} [Decidable p] (x y : Option (Out α)) (f : α → Option (Out β)) : ebind (if p then x else y) f = if p then ebind x f else ebind y f := by split <;> rfl
@[simp] theorem fin_if {p : Prop} [Decidable p] (x y : Option (Out (SO Store))) : fin (if p then x else y) = if p then fin x else fin y := by split <;> rfl
@[simp] theorem sb_if {p : Prop} [Decidable p] (x y : Option (Out (SO Store))) (g : Store → Option (Out (SO Store))) : sbindQ (if p then x else y) g = if p then sbindQ x g else sbindQ y g := by split <;> rfl
@[simp] theorem lift_none : lift (none : Option α) = none := rfl
@[simp] theorem eb_none (f : α → Option (Out β)) : ebind (none : Option (Out α)) f = none := rfl
@[simp] theorem e_lit (d : PyData) : evE Φ (.lit d) σ = some (.ok (.val d)) := rfl
@[simp] theorem e_var (i : Nat) : evE Φ (.var i) σ = lift ((sget σ i).map NP.view) := rfl
@[simp] theorem e_bin (o : Operator) (a b : CE) : evE Φ (.bin o a b) σ = ebind (evE Φ a σ) fun x => ebind (evE Φ b σ) fun y => lift (binop o x y) := rfl
noncomputable def negop : TV → Option (Out TV)
  | .val (.int i) => some (.ok (.val (.int (-i))))
  | _ => none
noncomputable def invop : TV → Option (Out TV)
  | .val (.int i) => some (.ok (.val (.int (Builtin.bitNot i))))
  | _ => none
@[simp] theorem e_neg (a : CE) : evE Φ (.neg a) σ = ebind (evE Φ a σ) negop := rfl
@[simp] theorem e_inv (a : CE) : evE Φ (.inv a) σ = ebind (evE Φ a σ) invop := rfl
@[simp] theorem neg_I (i : Int) : negop (.val (.int i)) = some (.ok (.val (.int (-i)))) := rfl
@[simp] theorem inv_I (i : Int) : invop (.val (.int i)) = some (.ok (.val (.int (Builtin.bitNot i)))) := rfl
@[simp] theorem e_not (a : CE) : evE Φ (.not a) σ = ebind (evE Φ a σ) fun x => lift ((truth x).map fun b => .val (.bool (!b))) := rfl
@[simp] theorem e_cmp (o : CmpOp) (a b : CE) : evE Φ (.cmp o a b) σ = ebind (evE Φ a σ) fun x => ebind (evE Φ b σ) fun y => lift ((cmpop o x y).map fun b => .val (.bool b)) := rfl
@[simp] theorem e_tup (es : List CE) : evE Φ (.tup es) σ = ebind (evEs Φ es σ) fun vs => lift ((datas vs).bind fun ds => if okSize ds.length then some (.val (.tuple ds)) else none) := rfl
@[simp] theorem e_lst (es : List CE) : evE Φ (.lst es) σ = ebind (evEs Φ es σ) fun vs => lift ((datas vs).bind fun ds => if okSize ds.length then some (.own ds) else none) := rfl
@[simp] theorem e_call (f : Nat) (es : List CE) : evE Φ (.call f es) σ = ebind (evEs Φ es σ) fun vs => Φ f vs := rfl
@[simp] theorem e_len (a : CE) : evE Φ (.len a) σ = ebind (evE Φ a σ) fun x => lift (lenop x) := rfl
@[simp] theorem e_ord (a : CE) : evE Φ (.ord a) σ = ebind (evE Φ a σ) fun x => lift (ordop x) := rfl
@[simp] theorem e_abs (a : CE) : evE Φ (.abs a) σ = ebind (evE Φ a σ) fun x => lift (absop x) := rfl
@[simp] theorem e_tostr (a : CE) : evE Φ (.tostr a) σ = ebind (evE Φ a σ) fun x => lift (strop x) := rfl
@[simp] theorem e_min2 (a b : CE) : evE Φ (.min2 a b) σ = ebind (evE Φ a σ) fun x => ebind (evE Φ b σ) fun y => lift (minop x y) := rfl
@[simp] theorem e_max2 (a b : CE) : evE Φ (.max2 a b) σ = ebind (evE Φ a σ) fun x => ebind (evE Φ b σ) fun y => lift (maxop x y) := rfl
@[simp] theorem e_lower (a : CE) : evE Φ (.lower a) σ = ebind (evE Φ a σ) fun x => lift (lowerop x) := rfl
@[simp] theorem e_sub (a b : CE) : evE Φ (.sub a b) σ = ebind (evE Φ a σ) fun x => ebind (evE Φ b σ) fun y => lift (subop x y) := rfl
@[simp] theorem e_slice (a b c : CE) : evE Φ (.slice a b c) σ = ebind (evE Φ a σ) fun x => ebind (evE Φ b σ) fun y => ebind (evE Φ c σ) fun z => lift (sliceop x y z) := rfl
@[simp] theorem e_join (a b : CE) : evE Φ (.join a b) σ = ebind (evE Φ a σ) fun x => if isStr x = true then ebind (evE Φ b σ) fun y => lift (joinop x y) else none := rfl
@[simp] theorem e_starts (a b : CE) : evE Φ (.starts a b) σ = ebind (evE Φ a σ) fun x => if isStr x = true then ebind (evE Φ b σ) fun y => lift (startsop x y) else none := rfl
@[simp] theorem e_fstr (es : List CE) : evE Φ (.fstr es) σ = ebind (evF Φ Str.empty es σ) fun s => some (.ok (.val (.str s))) := rfl
@[simp] theorem es_nil : evEs Φ [] σ = some (.ok []) := rfl
@[simp] theorem es_cons (e : CE) (r : List CE) : evEs Φ (e :: r) σ = ebind (evE Φ e σ) fun v => ebind (evEs Φ r σ) fun vs => some (.ok (v :: vs)) := rfl
@[simp] theorem t_not (a : CE) : evT Φ (.not a) σ = ebind (evT Φ a σ) fun b => some (.ok (!b)) := rfl
@[simp] theorem t_bool (x : Bool) (es : List CE) : evT Φ (.boolop x es) σ = evTs Φ x es σ := rfl
@[simp] theorem t_lit (d : PyData) : evT Φ (.lit d) σ = lift (truth (.val d)) := rfl
@[simp] theorem t_var (i : Nat) : evT Φ (.var i) σ = lift ((sget σ i).bind fun v => truth (NP.view v)) := rfl
@[simp] theorem t_cmp (o : CmpOp) (a b : CE) : evT Φ (.cmp o a b) σ = ebind (evE Φ a σ) fun x => ebind (evE Φ b σ) fun y => lift (cmpop o x y) := rfl
@[simp] theorem t_cmp2 (o p : CmpOp) (a b c : CE) : evT Φ (.cmp2 o p a b c) σ = ebind (evE Φ a σ) fun x => ebind (evE Φ b σ) fun y => ebind (lift (cmpop o x y)) fun q => if q = true then ebind (evE Φ c σ) fun z => lift (cmpop p y z) else some (.ok false) := by
  show ebind (evE Φ a σ) (fun x => ebind (evE Φ b σ) fun y => _) = _
  congr 1; funext x; congr 1; funext y
  cases cmpop o x y with
  | none => rfl
  | some q => cases q <;> rfl
@[simp] theorem t_call (f : Nat) (es : List CE) : evT Φ (.call f es) σ = ebind (evEs Φ es σ) fun vs => ebind (Φ f vs) fun x => lift (truth x) := rfl
@[simp] theorem t_starts (a b : CE) : evT Φ (.starts a b) σ = ebind (evE Φ a σ) fun x => if isStr x = true then ebind (evE Φ b σ) fun y => lift ((startsop x y).bind truth) else none := rfl
@[simp] theorem ts_nil (x : Bool) : evTs Φ x [] σ = some (.ok x) := rfl
@[simp] theorem ts_and (e : CE) (r : List CE) : evTs Φ true (e :: r) σ = ebind (evT Φ e σ) fun b => if b = true then evTs Φ true r σ else some (.ok false) := by
  show ebind (evT Φ e σ) (fun b => if b = true then evTs Φ true r σ else some (.ok b)) = _
  congr 1; funext b; cases b <;> rfl
@[simp] theorem ts_or (e : CE) (r : List CE) : evTs Φ false (e :: r) σ = ebind (evT Φ e σ) fun b => if b = true then some (.ok true) else evTs Φ false r σ := by
  show ebind (evT Φ e σ) (fun b => if b = false then evTs Φ false r σ else some (.ok b)) = _
  congr 1; funext b; cases b <;> rfl
noncomputable def itv : TV → Option (Out (List PyData))
  | .val (.tuple xs) => some (.ok xs)
  | .val (.str s) => if s.length ≤ strTop then some (.ok (chars s)) else none
  | _ => none
noncomputable def rngv : TV → Option (Out (List PyData))
  | .val (.int n) => if n.natAbs ≤ 1000000 then some (.ok (NP.range n)) else none
  | _ => none
@[simp] theorem it_val (e : CE) : evIt Φ (.val e) σ = ebind (evE Φ e σ) itv := rfl
@[simp] theorem it_rng (e : CE) : evIt Φ (.rng e) σ = ebind (evE Φ e σ) rngv := rfl
theorem ss_sget_self {σ : Store} {i : Nat} {v : TV} (h : i < σ.length) : sget (sset σ i v) i = some v := by
  unfold sget sset
  rw [List.getElem?_set_self (by simpa using h)]
  rfl
theorem ss_sget_ne {σ : Store} {i j : Nat} {v : TV} (h : i ≠ j) : sget (sset σ i v) j = sget σ j := by
  unfold sget sset
  rw [List.getElem?_set_ne h]
theorem ss_len {σ : Store} {i : Nat} {v : TV} : (sset σ i v).length = σ.length := by unfold sset; simp
end
section
variable {Φ : Nat → List TV → Option (Out TV)} {N : Nat} {σ : Store} {R : Option (Out TV)} {t e : CE} {a b rest : List CS} {v : TV}
theorem lt2 {k : Nat} (h : k < 2) : k = 0 ∨ k = 1 := by revert k; decide
theorem lt3 {k : Nat} (h : k < 3) : k = 0 ∨ k = 1 ∨ k = 2 := by revert k; decide
theorem lt4 {k : Nat} (h : k < 4) : k = 0 ∨ k = 1 ∨ k = 2 ∨ k = 3 := by revert k; decide
theorem lt5 {k : Nat} (h : k < 5) : k = 0 ∨ k = 1 ∨ k = 2 ∨ k = 3 ∨ k = 4 := by revert k; decide
theorem lt6 {k : Nat} (h : k < 6) : k = 0 ∨ k = 1 ∨ k = 2 ∨ k = 3 ∨ k = 4 ∨ k = 5 := by revert k; decide
theorem dT {p : Prop} [Decidable p] (h : p) : (some (.ok (decide p)) : Option (Out Bool)) = some (.ok true) := by rw [decide_eq_true h]
theorem dF {p : Prop} [Decidable p] (h : ¬ p) : (some (.ok (decide p)) : Option (Out Bool)) = some (.ok false) := by rw [decide_eq_false h]
theorem k_skip (h : evT Φ t σ = some (.ok false)) (k : fin (evSs Φ N rest σ) = R) : fin (evSs Φ N (.ite t a [] :: rest) σ) = R := by
  rw [ss_cons, s_ite, h]; exact k
theorem k_take (h : evT Φ t σ = some (.ok true)) (k : fin (evSs Φ N (a ++ rest) σ) = R) : fin (evSs Φ N (.ite t a b :: rest) σ) = R := by
  rw [ss_append] at k; rw [ss_cons, s_ite, h]; exact k
theorem k_ret (h : evE Φ e σ = some (.ok v)) : fin (evSs Φ N (.ret e :: rest) σ) = some (.ok (view v)) := by
  rw [ss_cons, s_ret, h]; rfl
theorem k_retX {x : Str} {ec : PyData} (h : evE Φ e σ = some (.exc x ec)) : fin (evSs Φ N (.ret e :: rest) σ) = some (.exc x ec) := by
  rw [ss_cons, s_ret, h]; rfl
theorem k_set {i : Nat} (h : evE Φ e σ = some (.ok v)) (hk : keepable v = true) (k : fin (evSs Φ N rest (sset σ i v)) = R) : fin (evSs Φ N (.assign i e :: rest) σ) = R := by
  rw [ss_cons, s_assign, h, eb_ok, if_pos hk]; exact k
theorem k_drop (h : evE Φ e σ = some (.ok (.val .none))) (k : fin (evSs Φ N rest σ) = R) : fin (evSs Φ N (.drop e :: rest) σ) = R := by
  rw [ss_cons, r_drop, h]; exact k
theorem k_dropX {x : Str} {ec : PyData} (h : evE Φ e σ = some (.exc x ec)) : fin (evSs Φ N (.drop e :: rest) σ) = some (.exc x ec) := by
  rw [ss_cons, r_drop, h]; rfl
theorem k_raise {x : Str} {ec : PyData} (h : evE Φ e σ = some (.ok (.exc x ec))) : fin (evSs Φ N (.raise e :: rest) σ) = some (.exc x ec) := by
  rw [ss_cons, r_raise, h]; rfl
theorem k_do {c : CS} {σ' : Store} (h : evS Φ N c σ = some (.ok (.next σ'))) (k : fin (evSs Φ N rest σ') = R) : fin (evSs Φ N (c :: rest) σ) = R := by
  rw [ss_cons, h]; exact k
theorem k_call {f : Nat} {es : List CE} {vs : List TV} {r : Option (Out TV)} (h : evEs Φ es σ = some (.ok vs)) (h2 : Φ f vs = r) : evE Φ (.call f es) σ = r := by
  rw [e_call, h]; exact h2
theorem k_bin {op : Operator} {x y : CE} {u w : TV} (h1 : evE Φ x σ = some (.ok u)) (h2 : evE Φ y σ = some (.ok w)) (h3 : binop op u w = some v) : evE Φ (.bin op x y) σ = some (.ok v) := by
  rw [e_bin, h1, h2]
  show lift (binop op u w) = _
  rw [h3]; rfl
theorem k_cmp {op : CmpOp} {x y : CE} {u w : TV} {q : Bool} (h1 : evE Φ x σ = some (.ok u)) (h2 : evE Φ y σ = some (.ok w)) (h3 : cmpop op u w = some q) : evT Φ (.cmp op x y) σ = some (.ok q) := by
  rw [t_cmp, h1, h2]
  show lift (cmpop op u w) = _
  rw [h3]; rfl
theorem k_ifT {x y : CE} (h : evT Φ t σ = some (.ok true)) (k : evE Φ x σ = R) : evE Φ (.ife t x y) σ = R := by
  rw [e_ife, h]; exact k
theorem k_ifF {x y : CE} (h : evT Φ t σ = some (.ok false)) (k : evE Φ y σ = R) : evE Φ (.ife t x y) σ = R := by
  rw [e_ife, h]; exact k
theorem k_andF {x : CE} {r : List CE} (h : evT Φ x σ = some (.ok false)) : evT Φ (.boolop true (x :: r)) σ = some (.ok false) := by
  rw [t_bool, ts_and, h]; rfl
theorem k_andT {x : CE} {r : List CE} {q : Option (Out Bool)} (h : evT Φ x σ = some (.ok true)) (k : evT Φ (.boolop true r) σ = q) : evT Φ (.boolop true (x :: r)) σ = q := by
  rw [t_bool] at *; rw [ts_and, h]; exact k
theorem k_orT {x : CE} {r : List CE} (h : evT Φ x σ = some (.ok true)) : evT Φ (.boolop false (x :: r)) σ = some (.ok true) := by
  rw [t_bool, ts_or, h]; rfl
theorem k_orF {x : CE} {r : List CE} {q : Option (Out Bool)} (h : evT Φ x σ = some (.ok false)) (k : evT Φ (.boolop false r) σ = q) : evT Φ (.boolop false (x :: r)) σ = q := by
  rw [t_bool] at *; rw [ts_or, h]; exact k
theorem k_else (h : evT Φ t σ = some (.ok false)) (k : fin (evSs Φ N (b ++ rest) σ) = R) : fin (evSs Φ N (.ite t a b :: rest) σ) = R := by
  rw [ss_append] at k; rw [ss_cons, s_ite, h]; exact k
theorem k_sub {x i : CE} {u w : TV} (h1 : evE Φ x σ = some (.ok u)) (h2 : evE Φ i σ = some (.ok w)) (h3 : subop u w = some v) : evE Φ (.sub x i) σ = some (.ok v) := by
  rw [e_sub, h1, h2]
  show lift (subop u w) = _
  rw [h3]; rfl
theorem k_slice {x i j : CE} {u w z : TV} (h1 : evE Φ x σ = some (.ok u)) (h2 : evE Φ i σ = some (.ok w)) (h4 : evE Φ j σ = some (.ok z)) (h3 : sliceop u w z = some v) : evE Φ (.slice x i j) σ = some (.ok v) := by
  rw [e_slice, h1, h2, h4]
  show lift (sliceop u w z) = _
  rw [h3]; rfl
theorem k_es2 {x y : CE} {u w : TV} (h : evE Φ x σ = some (.ok u)) (h' : evE Φ y σ = some (.ok w)) : evEs Φ [x, y] σ = some (.ok [u, w]) := by
  rw [es_cons, h, es_cons, h']; rfl
theorem k_neg {x : CE} {i : Int} (h : evE Φ x σ = some (.ok (TV.val (.int i)))) : evE Φ (.neg x) σ = some (.ok (TV.val (.int (-i)))) := by
  rw [e_neg, h]; rfl
theorem k_abs {x : CE} {i : Int} (h : evE Φ x σ = some (.ok (TV.val (.int i)))) : evE Φ (.abs x) σ = some (.ok (TV.val (.int (i.natAbs : Nat)))) := by
  rw [e_abs, h]
  show lift (some (TV.val (.int (if i < 0 then -i else i)))) = _
  have : (if i < 0 then -i else i) = (i.natAbs : Int) := by split <;> omega
  rw [this]; rfl
theorem k_es3 {x y z : CE} {u w q : TV} (h : evE Φ x σ = some (.ok u)) (h' : evE Φ y σ = some (.ok w)) (h'' : evE Φ z σ = some (.ok q)) : evEs Φ [x, y, z] σ = some (.ok [u, w, q]) := by
  rw [es_cons, h, k_es2 h' h'']; rfl
theorem k_assign {i : Nat} {cs : List CS} {r : Option (Out (SO Store))} (h : evE Φ e σ = some (.ok v)) (hk : keepable v = true) (k : evSs Φ N cs (sset σ i v) = r) : evSs Φ N (.assign i e :: cs) σ = r := by
  rw [ss_cons, s_assign, h, eb_ok, if_pos hk]; exact k
theorem k_tostr {x : CE} {u : TV} (h : evE Φ x σ = some (.ok u)) (h2 : strop u = some v) : evE Φ (.tostr x) σ = some (.ok v) := by
  rw [e_tostr, h]
  show lift (strop u) = _
  rw [h2]; rfl
theorem k_inv {x : CE} {i : Int} (h : evE Φ x σ = some (.ok (.val (.int i)))) : evE Φ (.inv x) σ = some (.ok (.val (.int (Builtin.bitNot i)))) := by
  rw [e_inv, h]; rfl
theorem k_setX {i : Nat} {x : Str} {ec : PyData} (h : evE Φ e σ = some (.exc x ec)) : fin (evSs Φ N (.assign i e :: rest) σ) = some (.exc x ec) := by
  rw [ss_cons, s_assign, h]; rfl
theorem k_es1 {x : CE} {u : TV} (h : evE Φ x σ = some (.ok u)) : evEs Φ [x] σ = some (.ok [u]) := by
  rw [es_cons, h]; rfl
end

noncomputable abbrev S (l : List Nat) : TV := .val (.str ⟨l.toArray⟩)
noncomputable abbrev I (i : Int) : TV := .val (.int i)


@[simp] theorem sget_zero (o : Option TV) (l : Store) : sget (o :: l) 0 = o := by unfold sget; cases o <;> rfl
@[simp] theorem sget_succ (o : Option TV) (l : Store) (n : Nat) : sget (o :: l) (n + 1) = sget l n := rfl
@[simp] theorem sset_zero (o : Option TV) (l : Store) (v : TV) : sset (o :: l) 0 v = some v :: l := rfl
@[simp] theorem sset_succ (o : Option TV) (l : Store) (n : Nat) (v : TV) : sset (o :: l) (n + 1) v = o :: sset l n v := rfl
@[simp] theorem view_val (d : PyData) : view (.val d) = .val d := rfl
@[simp] theorem keep_int (i : Int) : keepable (.val (.int i)) = true := rfl
@[simp] theorem keep_str (i : Str) : keepable (.val (.str i)) = true := rfl
@[simp] theorem keep_bool (i : Bool) : keepable (.val (.bool i)) = true := rfl
@[simp] theorem keep_none : keepable (.val .none) = true := rfl
@[simp] theorem keep_own (xs : List PyData) : keepable (.own xs) = true := rfl

theorem natCast_inj (a b : Nat) : ((a : Int) = (b : Int)) ↔ a = b := Int.natCast_inj
@[simp] theorem len_S {l : List Nat} (h : l.length ≤ 1000000) : lenop (S l) = some (I l.length) := by
  show (if l.toArray.size ≤ strTop then _ else _) = _
  rw [List.size_toArray, if_pos (by unfold strTop; exact h)]
  rfl
@[simp] theorem ord_S (c : Nat) : ordop (S [c]) = some (I c) := rfl
theorem sub_S {l : List Nat} {k : Int} (h0 : 0 ≤ k) (h : l.length ≤ 1000000) : subop (S l) (I k) = (l[k.toNat]?).map fun c => S [c] := by
  show (strItem ⟨l.toArray⟩ k).map TV.val = _
  unfold strItem
  rw [if_pos ⟨h0, by show l.toArray.size ≤ strTop; rw [List.size_toArray]; unfold strTop; exact h⟩]
  show ((l.toArray[k.toNat]?).map _).map _ = _
  rw [List.getElem?_toArray, Option.map_map]
  rfl
theorem sub_Sn {l : List Nat} {k : Nat} (h : l.length ≤ 1000000) : subop (S l) (I (k : Nat)) = (l[k]?).map fun c => S [c] := by
  rw [sub_S (Int.natCast_nonneg k) h]; rfl
theorem add_S {a b : List Nat} (h : a.length + b.length ≤ 1000000) : binop .Add (S a) (S b) = some (S (a ++ b)) := by
  show (if a.toArray.size + b.toArray.size ≤ strTop then some (TV.val (.str (⟨a.toArray⟩ ++ ⟨b.toArray⟩))) else none) = _
  rw [List.size_toArray, List.size_toArray, if_pos (by unfold strTop; exact h)]
  show some (TV.val (.str ⟨a.toArray ++ b.toArray⟩)) = _
  rw [List.append_toArray]
theorem str_eq {a b : List Nat} : ((⟨a.toArray⟩ : Str) == ⟨b.toArray⟩) = decide (a = b) := by
  by_cases h : a = b
  · subst h; simp
  · rw [decide_eq_false h]
    have : (⟨a.toArray⟩ : Str) ≠ ⟨b.toArray⟩ := fun q => h (by injection q with q; exact by simpa using congrArg Array.toList q)
    simpa using this
@[simp] theorem eq_S (a b : List Nat) : cmpop .Eq (S a) (S b) = some (decide (a = b)) := by
  show some ((⟨a.toArray⟩ : Str) == ⟨b.toArray⟩) = _
  rw [str_eq]
@[simp] theorem ne_S (a b : List Nat) : cmpop .NotEq (S a) (S b) = some (!decide (a = b)) := by
  show some (!((⟨a.toArray⟩ : Str) == ⟨b.toArray⟩)) = _
  rw [str_eq]
@[simp] theorem eq_I (a b : Int) : cmpop .Eq (I a) (I b) = some (decide (a = b)) := rfl
@[simp] theorem ne_I (a b : Int) : cmpop .NotEq (I a) (I b) = some (!decide (a = b)) := rfl
@[simp] theorem lt_I (a b : Int) : cmpop .Lt (I a) (I b) = some (decide (a < b)) := rfl
@[simp] theorem le_I (a b : Int) : cmpop .LtE (I a) (I b) = some (decide (a ≤ b)) := rfl
@[simp] theorem gt_I (a b : Int) : cmpop .Gt (I a) (I b) = some (decide (b < a)) := rfl
@[simp] theorem ge_I (a b : Int) : cmpop .GtE (I a) (I b) = some (decide (b ≤ a)) := rfl
@[simp] theorem add_I (a b : Int) : binop .Add (I a) (I b) = some (I (a + b)) := rfl
@[simp] theorem sub_I (a b : Int) : binop .Sub (I a) (I b) = some (I (a - b)) := rfl

noncomputable def digitP (c : Nat) : Int := if 48 ≤ c ∧ c ≤ 57 then (c : Int) - 48 else if 97 ≤ c ∧ c ≤ 122 then (c : Int) - 87 else if 65 ≤ c ∧ c ≤ 90 then (c : Int) - 55 else -1

theorem ev_digit (d c : Nat) : evCall tbl 1000 (d + 1) 2 [S [c]] = some (.ok (I (digitP c))) := by
  rw [ev_fn (c := f_digit) rfl (by decide) rfl rfl]
  simp [f_digit]
  unfold digitP
  repeat' split
  all_goals first | rfl | (exfalso; omega)

noncomputable def isChar (c : Nat) : Bool := decide (c < 55296)
noncomputable def okS (l : List Nat) : Bool := l.all isChar
theorem strOk_S {l : List Nat} (h : okS l = true) : PyData.strOk (⟨l.toArray⟩ : Str) = true := by
  unfold PyData.strOk
  simp only [okS, isChar, List.all_eq_true, decide_eq_true_eq] at h
  simp
  intro c hc
  have := h c hc
  omega
noncomputable def isS (y : PyData) : Bool := match y with
  | .str x => PyData.strOk x
  | _ => false
theorem canLay_strs : ∀ {xs : List PyData}, xs.all isS = true → PyData.canLayAll0 xs = true
  | [], _ => rfl
  | x :: xs, h => by
    have h := Bool.and_eq_true_iff.mp (show (isS x && xs.all isS) = true from h)
    show (x.canLay0 && PyData.canLayAll0 xs) = true
    rw [canLay_strs h.2, Bool.and_true]
    cases x <;> first | exact h.1 | cases h.1
theorem inOk_S {l : List Nat} {xs : List PyData} (h : okS l = true) (hx : xs.all isS = true) : inOk (.str ⟨l.toArray⟩) xs = true := by
  unfold inOk
  have h1 : (PyData.str ⟨l.toArray⟩).canLay0 = true := strOk_S h
  rw [canLay_strs hx, h1]
  rfl
@[simp] theorem anyEq_nil (d : PyData) : anyEq d [] = false := rfl
@[simp] theorem anyEq_S (l m : List Nat) (xs : List PyData) : anyEq (.str ⟨l.toArray⟩) (.str ⟨m.toArray⟩ :: xs) = (decide (l = m) || anyEq (.str ⟨l.toArray⟩) xs) := by
  show ((⟨m.toArray⟩ : Str) == ⟨l.toArray⟩ || _) = _
  rw [str_eq]
  congr 1
  exact decide_eq_decide.mpr ⟨Eq.symm, Eq.symm⟩
@[simp] theorem anyEq_I (i j : Int) (xs : List PyData) : anyEq (.int i) (.int j :: xs) = (decide (i = j) || anyEq (.int i) xs) := by
  show ((j == i) || _) = _
  congr 1
  by_cases h : i = j
  · subst h; simp
  · rw [decide_eq_false h]; simp [Ne.symm h]
noncomputable def isI (y : PyData) : Bool := match y with
  | .int _ => true
  | _ => false
theorem canLay_ints : ∀ {xs : List PyData}, xs.all isI = true → PyData.canLayAll0 xs = true
  | [], _ => rfl
  | x :: xs, h => by
    have h := Bool.and_eq_true_iff.mp (show (isI x && xs.all isI) = true from h)
    show (x.canLay0 && PyData.canLayAll0 xs) = true
    rw [canLay_ints h.2, Bool.and_true]
    cases x <;> first | rfl | cases h.1
theorem in_tS {l : List Nat} {xs : List PyData} (h : okS l = true) (hx : xs.all isS = true) : cmpop .In (S l) (.val (.tuple xs)) = some (anyEq (.str ⟨l.toArray⟩) xs) := by
  show (if inOk _ _ = true then _ else _) = _
  rw [if_pos (inOk_S h hx)]
theorem notin_tS {l : List Nat} {xs : List PyData} (h : okS l = true) (hx : xs.all isS = true) : cmpop .NotIn (S l) (.val (.tuple xs)) = some (!anyEq (.str ⟨l.toArray⟩) xs) := by
  show (if inOk _ _ = true then _ else _) = _
  rw [if_pos (inOk_S h hx)]
theorem in_tI {i : Int} {xs : List PyData} (hx : xs.all isI = true) : cmpop .In (I i) (.val (.tuple xs)) = some (anyEq (.int i) xs) := by
  show (if inOk _ _ = true then _ else _) = _
  rw [if_pos (by unfold inOk; rw [canLay_ints hx]; rfl)]
theorem notin_tI {i : Int} {xs : List PyData} (hx : xs.all isI = true) : cmpop .NotIn (I i) (.val (.tuple xs)) = some (!anyEq (.int i) xs) := by
  show (if inOk _ _ = true then _ else _) = _
  rw [if_pos (by unfold inOk; rw [canLay_ints hx]; rfl)]
@[simp] theorem datas_nil : datas [] = some [] := rfl
@[simp] theorem datas_cons (x : PyData) (r : List TV) : datas (.val x :: r) = if flat x = true then (datas r).map (x :: ·) else none := rfl
@[simp] theorem flat_int (i : Int) : flat (.int i) = true := rfl
@[simp] theorem flat_str (i : Str) : flat (.str i) = true := rfl
@[simp] theorem flat_none : flat .none = true := rfl
@[simp] theorem flat_bool (b : Bool) : flat (.bool b) = true := rfl
@[simp] theorem flat_tuple' (xs : List PyData) : flat (.tuple xs) = flats xs := by simp [flat]
@[simp] theorem flats_nil : flats [] = true := rfl
@[simp] theorem flats_cons (x : PyData) (xs : List PyData) : flats (x :: xs) = (flat x && flats xs) := by simp [flats]
@[simp] theorem keep_tuple (xs : List PyData) : keepable (.val (.tuple xs)) = flats xs := by show flat (.tuple xs) = _; simp

noncomputable def blankP (c : Nat) : Bool := decide (c = 32) || (decide (c = 9) || (decide (c = 10) || (decide (c = 11) || (decide (c = 12) || decide (c = 13)))))
theorem ev_blank (d c : Nat) (h : isChar c = true) : evCall tbl 1000 (d + 1) 1 [S [c]] = some (.ok (.val (.bool (blankP c)))) := by
  rw [ev_fn (c := f_is_blank) rfl (by decide) rfl rfl]
  have := in_tS (l := [c]) (xs := [.str ⟨#[32]⟩, .str ⟨#[9]⟩, .str ⟨#[10]⟩, .str ⟨#[11]⟩, .str ⟨#[12]⟩, .str ⟨#[13]⟩]) (by simpa [okS] using h) (by decide +kernel)
  simp [f_is_blank, okSize, this]
  rfl


noncomputable def dval (b : Int) : Int → List Nat → Option Int
  | v, [] => some v
  | v, c :: r => if digitP c < 0 ∨ b ≤ digitP c then none else dval b (v * b + digitP c) r
noncomputable def optI : Option Int → TV
  | some v => I v
  | none => .val .none
theorem chars_S (l : List Nat) : chars ⟨l.toArray⟩ = l.map fun c => .str ⟨#[c]⟩ := rfl
theorem inTop_of {v : Int} (h : v.natAbs < 2 ^ 1900) : inTop v = true := by
  unfold inTop top
  exact decide_eq_true h
theorem mul_I {a b : Int} (ha : inTop a = true) (hb : inTop b = true) : binop .Mult (I a) (I b) = some (I (a * b)) := by
  show (if (inTop a && inTop b) = true then _ else _) = _
  rw [ha, hb]; rfl

noncomputable def dvBody : List CS := [
    (.assign 4 (.call 2 [(.var 3)])),
    (.ite (.boolop false [(.cmp .Lt (.var 4) (.lit (.int (0)))), (.cmp .GtE (.var 4) (.var 1))]) [
      (.ret (.lit .none))] []),
    (.assign 2 (.bin .Add (.bin .Mult (.var 2) (.var 1)) (.var 4)))]
theorem dv_step (d : Nat) (l0 : List Nat) (b v : Int) (c : Nat) (x3 x4 : Option TV) (hb : inTop b = true) (hv : inTop v = true) :
    evSs (evCall tbl 1000 (d + 1)) 1000 dvBody (sset [some (S l0), some (I b), some (I v), x3, x4] 3 (S [c])) =
      if digitP c < 0 ∨ b ≤ digitP c then some (.ok (.ret (.val .none))) else some (.ok (.next [some (S l0), some (I b), some (I (v * b + digitP c)), some (S [c]), some (I (digitP c))])) := by
  by_cases h1 : digitP c < 0 <;> by_cases h2 : b ≤ digitP c <;> simp [dvBody, ev_digit, mul_I hv hb, h1, h2]

theorem dv_loop (d : Nat) (l0 : List Nat) (b : Int) (h0 : 0 ≤ b) (hb16 : b ≤ 16) : ∀ (l : List Nat) (v : Int) (x3 x4 : Option TV), 0 ≤ v → v < ((16 ^ (400 - l.length) : Nat) : Int) → l.length ≤ 400 →
    match dval b v l with
    | none => forP (fun d' σ => evSs (evCall tbl 1000 (d + 1)) 1000 dvBody (sset σ 3 (.val d'))) (l.map fun c => .str ⟨#[c]⟩) [some (S l0), some (I b), some (I v), x3, x4] = some (.ok (.ret (.val .none)))
    | some v' => ∃ y3 y4, forP (fun d' σ => evSs (evCall tbl 1000 (d + 1)) 1000 dvBody (sset σ 3 (.val d'))) (l.map fun c => .str ⟨#[c]⟩) [some (S l0), some (I b), some (I v), x3, x4] = some (.ok (.next [some (S l0), some (I b), some (I v'), y3, y4]))
  | [], v, x3, x4, _, _, _ => ⟨x3, x4, rfl⟩
  | c :: r, v, x3, x4, hv0, hv1, hl => by
    have hpow : (16 : Nat) ^ (400 - (c :: r).length) ≤ 16 ^ 400 := Nat.pow_le_pow_right (by decide) (by omega)
    have hT : ∀ z : Int, 0 ≤ z → z < ((16 ^ 400 : Nat) : Int) → inTop z = true := fun z a1 a2 => by
      unfold inTop top
      refine decide_eq_true ?_
      have h1 : (z.natAbs : Int) = z := Int.natAbs_of_nonneg a1
      have h3 : z.natAbs < 16 ^ 400 := by rw [← h1] at a2; exact Int.ofNat_lt.mp a2
      have h4 : (16 : Nat) ^ 400 ≤ 2 ^ 1900 := by
        rw [show (16 : Nat) = 2 ^ 4 from rfl, ← Nat.pow_mul]
        exact Nat.pow_le_pow_right (by decide) (by decide)
      exact Nat.lt_of_lt_of_le h3 h4
    have hvT := hT v hv0 (Int.lt_of_lt_of_le hv1 (Int.ofNat_le.mpr hpow))
    have hbT : inTop b = true := by
      unfold inTop
      refine decide_eq_true (Nat.lt_of_le_of_lt (show b.natAbs ≤ 16 by omega) ?_)
      unfold top
      exact Nat.lt_of_lt_of_le (show 16 < 2 ^ 5 by decide) (Nat.pow_le_pow_right (by decide) (by decide))
    unfold dval
    rw [List.map_cons, for_cons, dv_step d l0 b v c x3 x4 hbT hvT]
    by_cases h : digitP c < 0 ∨ b ≤ digitP c
    · rw [if_pos h, if_pos h]; rfl
    · rw [if_neg h, if_neg h, sb_next]
      have hg : 0 ≤ digitP c ∧ digitP c < b := by omega
      refine dv_loop d l0 b h0 hb16 r (v * b + digitP c) _ _ ?_ ?_ (by simp at hl; omega)
      · exact Int.add_nonneg (Int.mul_nonneg hv0 h0) hg.1
      · have e1 : (16 : Nat) ^ (400 - r.length) = 16 ^ (400 - (c :: r).length) * 16 := by
          rw [← Nat.pow_succ]
          congr 1
          simp at hl ⊢
          omega
        rw [e1]
        have : v * b ≤ v * 16 := Int.mul_le_mul_of_nonneg_left hb16 hv0
        rw [Int.natCast_mul]
        omega

theorem ev_digits (d : Nat) (l : List Nat) (b : Int) (h0 : 0 ≤ b) (hb16 : b ≤ 16) (hl : l.length ≤ 300) (hn : l ≠ []) : evCall tbl 1000 (d + 2) 3 [S l, I b] = some (.ok (optI (dval b 0 l))) := by
  rw [ev_fn (c := f_digits_value) rfl (by decide) rfl rfl]
  have h := dv_loop d l b h0 hb16 l 0 none none (by decide) (Int.ofNat_lt.mpr (Nat.pow_pos (by decide))) (by omega)
  have hz : l.length ≤ strTop := by unfold strTop; omega
  have hit : ∀ σ, evIt (evCall tbl 1000 (d + 1)) (.val (.var 0)) (some (S l) :: σ) = some (.ok (l.map fun c => .str ⟨#[c]⟩)) := fun σ => by
    simp [itv, Str.length, hz, chars_S]
  have hf : ∀ σ, evS (evCall tbl 1000 (d + 1)) 1000 (.for1 3 (.val (.var 0)) dvBody) (some (S l) :: σ) = forP (fun d' σ => evSs (evCall tbl 1000 (d + 1)) 1000 dvBody (sset σ 3 (.val d'))) (l.map fun c => .str ⟨#[c]⟩) (some (S l) :: σ) := fun σ => by
    rw [s_for1, hit]; rfl
  show fin (evSs _ _ (_ :: _ :: (.for1 3 (.val (.var 0)) dvBody) :: _) _) = _
  have hne : ¬ l = [] := hn
  simp only [ss_cons, s_ite, t_cmp, e_var, sget_zero, List.map_cons, List.cons_append, Option.map_some, view_val, lift_some, eb_ok, e_lit]
  rw [show (PyData.str ⟨#[]⟩) = PyData.str ⟨([] : List Nat).toArray⟩ from rfl, eq_S]
  simp only [lift_some, eb_ok, hne, decide_false, Bool.false_eq_true, if_false, ss_nil, sb_next, s_assign, e_lit, keep_int, if_true]
  show fin (sbindQ (evS _ _ (.for1 3 (.val (.var 0)) dvBody) [some (S l), some (I b), some (I 0), none, none]) _) = _
  rw [hf]
  cases hd : dval b 0 l with
  | none =>
    rw [hd] at h
    rw [h]
    rfl
  | some v =>
    rw [hd] at h
    obtain ⟨y3, y4, h⟩ := h
    rw [h]
    simp [optI]
end NP
end
section
open PySem PySem.Calls PyProof.Rows PySem.W PySem.Spec
set_option maxRecDepth 100000
namespace NP

@[simp] theorem keep_opt (o : Option Int) : keepable (optI o) = true := by cases o <;> rfl
@[simp] theorem view_opt (o : Option Int) : view (optI o) = optI o := by cases o <;> rfl
@[simp] theorem is_opt (o : Option Int) : cmpop .Is (optI o) (.val .none) = some o.isNone := by cases o <;> rfl
@[simp] theorem isnot_opt (o : Option Int) : cmpop .IsNot (optI o) (.val .none) = some (!o.isNone) := by cases o <;> rfl
@[simp] theorem is_int (v : Int) : cmpop .Is (.val (.int v)) (.val .none) = some false := rfl
@[simp] theorem is_none : cmpop .Is (.val .none) (.val .none) = some true := rfl
@[simp] theorem isnot_int (v : Int) : cmpop .IsNot (.val (.int v)) (.val .none) = some true := rfl
@[simp] theorem isnot_none : cmpop .IsNot (.val .none) (.val .none) = some false := rfl
@[simp] theorem isnot_tup (v : List PyData) : cmpop .IsNot (.val (.tuple v)) (.val .none) = some true := rfl
@[simp] theorem truth_bool (b : Bool) : truth (.val (.bool b)) = some b := rfl
@[simp] theorem truth_none : truth (.val .none) = some false := rfl
@[simp] theorem items_2 (a b : PyData) : items 2 (.tuple [a, b]) = some [a, b] := rfl
@[simp] theorem items_3 (a b c : PyData) : items 3 (.tuple [a, b, c]) = some [a, b, c] := rfl
@[simp] theorem setAll_nil (σ : Store) (ds : List PyData) : ssetAll σ [] ds = σ := rfl
@[simp] theorem setAll_cons (σ : Store) (i : Nat) (is : List Nat) (d : PyData) (ds : List PyData) : ssetAll σ (i :: is) (d :: ds) = ssetAll (sset σ i (.val d)) is ds := rfl
section
variable {Φ : Nat → List TV → Option (Out TV)} {N : Nat} {σ : Store}
noncomputable def asgT (σ : Store) (is : List Nat) : TV → Option (Out (SO Store))
  | .val d => lift ((items is.length d).map fun ds => .next (ssetAll σ is ds))
  | _ => none
@[simp] theorem s_assignT (is : List Nat) (e : CE) : evS Φ N (.assignT is e) σ = ebind (evE Φ e σ) (asgT σ is) := rfl
@[simp] theorem asgT_val (is : List Nat) (d : PyData) : asgT σ is (.val d) = lift ((items is.length d).map fun ds => .next (ssetAll σ is ds)) := rfl
noncomputable def augv (σ : Store) (op : Operator) (i : Nat) (a : Int) : TV → Option (Out (SO Store))
  | .val (.int b) => (match op with
    | .Add => some (.ok (.next (sset σ i (.val (.int (a + b))))))
    | .Sub => some (.ok (.next (sset σ i (.val (.int (a - b))))))
    | _ => none)
  | _ => none
theorem s_aug {op : Operator} {i : Nat} {e : CE} {a : Int} (h : sget σ i = some (I a)) : evS Φ N (.aug op i e) σ = ebind (evE Φ e σ) (augv σ op i a) := by
  rw [r_aug, h]
  show ebind _ _ = _
  congr 1
  funext v
  cases v with
  | val d => cases d <;> cases op <;> rfl
  | own _ => cases op <;> rfl
  | exc _ _ => cases op <;> rfl
@[simp] theorem augv_add (i : Nat) (a b : Int) : augv σ .Add i a (.val (.int b)) = some (.ok (.next (sset σ i (.val (.int (a + b)))))) := rfl
@[simp] theorem augv_sub (i : Nat) (a b : Int) : augv σ .Sub i a (.val (.int b)) = some (.ok (.next (sset σ i (.val (.int (a - b)))))) := rfl
end

noncomputable def baseP (c : Nat) : Int := if c = 120 ∨ c = 88 then 16 else if c = 111 ∨ c = 79 then 8 else if c = 98 ∨ c = 66 then 2 else if c = 100 ∨ c = 68 then 10 else 0
theorem in_2 {c p q : Nat} (h : isChar c = true) (hp : isChar p = true) (hq : isChar q = true) : cmpop .In (S [c]) (.val (.tuple [.str ⟨#[p]⟩, .str ⟨#[q]⟩])) = some (decide (c = p ∨ c = q)) := by
  have hs : ∀ {a : Nat}, isChar a = true → isS (.str ⟨#[a]⟩) = true := fun {a} h => strOk_S (l := [a]) (by simpa [okS] using h)
  rw [in_tS (l := [c]) (xs := [.str ⟨#[p]⟩, .str ⟨#[q]⟩]) (by simpa [okS] using h) (by simp [hs hp, hs hq])]
  have := anyEq_S [c] [p] [.str ⟨#[q]⟩]
  have h2 := anyEq_S [c] [q] []
  simp at this h2 ⊢
theorem ev_base (d c : Nat) (h : isChar c = true) : evCall tbl 1000 (d + 1) 4 [S [c]] = some (.ok (I (baseP c))) := by
  rw [ev_fn (c := f_base_of) rfl (by decide) rfl rfl]
  simp [f_base_of, okSize, in_2 h (p := 120) (q := 88) rfl rfl, in_2 h (p := 111) (q := 79) rfl rfl, in_2 h (p := 98) (q := 66) rfl rfl, in_2 h (p := 100) (q := 68) rfl rfl]
  unfold baseP
  repeat' split
  all_goals first | rfl | (exfalso; omega)
theorem base_range (c : Nat) : 0 ≤ baseP c ∧ baseP c ≤ 16 := by
  have h : ∀ {p : Prop} [Decidable p] {x y : Int}, 0 ≤ x ∧ x ≤ 16 → 0 ≤ y ∧ y ≤ 16 → 0 ≤ (if p then x else y) ∧ (if p then x else y) ≤ 16 := fun {p _ x y} a b => by split <;> assumption
  unfold baseP
  repeat' first | exact (by decide) | refine h ?_ ?_

noncomputable def wval : List Nat → Option Int
  | r0 :: c :: x :: r => if r0 = 48 ∧ baseP c > 0 then dval (baseP c) 0 (x :: r) else dval 10 0 (r0 :: c :: x :: r)
  | l => dval 10 0 l
noncomputable def sgn (m : Bool) (o : Option Int) : Option Int := o.map fun v => if m then -v else v

noncomputable def woTail : List CS := [
  (.assign 4 (.lit (.int (0)))),
  (.ite (.boolop true [(.cmp .Gt (.bin .Sub (.var 2) (.var 1)) (.lit (.int (2)))), (.cmp .Eq (.sub (.var 0) (.var 1)) (.lit (.str ⟨#[48]⟩)))]) [
    (.assign 4 (.call 4 [(.sub (.var 0) (.bin .Add (.var 1) (.lit (.int (1)))))]))] []),
  (.ite (.cmp .Gt (.var 4) (.lit (.int (0)))) [
    (.assign 5 (.call 3 [(.slice (.var 0) (.bin .Add (.var 1) (.lit (.int (2)))) (.var 2)), (.var 4)]))] [
    (.assign 5 (.call 3 [(.slice (.var 0) (.var 1) (.var 2)), (.lit (.int (10)))]))]),
  (.ite (.cmp .Is (.var 5) (.lit .none)) [
    (.ret (.lit .none))] []),
  (.ret (.ife (.var 3) (.neg (.var 5)) (.var 5)))]

theorem wo_end (d : Nat) (Φ : Nat → List TV → Option (Out TV)) (l : List Nat) (f b x : Int) (m : Bool) (o : Option Int) :
    fin (evSs Φ 1000 [(.ite (.cmp .Is (.var 5) (.lit .none)) [(.ret (.lit .none))] []), (.ret (.ife (.var 3) (.neg (.var 5)) (.var 5)))] [some (S l), some (I f), some (I b), some (.val (.bool m)), some (I x), some (optI o)]) = some (.ok (optI (sgn m o))) := by
  cases o with
  | none => simp [optI, sgn]
  | some v => cases m <;> simp [optI, sgn]
theorem eq_c (c k : Nat) : cmpop .Eq (S [c]) (.val (.str ⟨#[k]⟩)) = some (decide (c = k)) := by
  rw [show (TV.val (.str ⟨#[k]⟩)) = S [k] from rfl, eq_S]
  congr 1
  rw [decide_eq_decide]
  exact ⟨fun q => (List.cons.inj q).1, fun q => by rw [q]⟩
section
variable {Φ : Nat → List TV → Option (Out TV)} {l r : List Nat} {f b x : Int} {m : Bool} {x5 : Option TV}
noncomputable abbrev wSt (l : List Nat) (f b : Int) (m : Bool) (x4 x5 : Option TV) : Store := [some (S l), some (I f), some (I b), some (.val (.bool m)), x4, x5]
theorem wt_dec (hd : Φ 3 [S r, I 10] = some (.ok (optI (dval 10 0 r)))) (hs : sliceop (S l) (I f) (I b) = some (S r)) (hx : ¬ 0 < x) : fin (evSs Φ 1000 (woTail.drop 2) (wSt l f b m (some (I x)) x5)) = some (.ok (optI (sgn m (dval 10 0 r)))) :=
  k_else (dF hx) (k_set (k_call (k_es2 (k_slice (u := S l) (w := I f) (z := I b) rfl rfl rfl hs) rfl) hd) (keep_opt _) (wo_end 0 Φ l f b x m _))
theorem wt_based {r2 : List Nat} (hd : Φ 3 [S r2, I x] = some (.ok (optI (dval x 0 r2)))) (hs : sliceop (S l) (I (f + 2)) (I b) = some (S r2)) (hx : 0 < x) : fin (evSs Φ 1000 (woTail.drop 2) (wSt l f b m (some (I x)) x5)) = some (.ok (optI (sgn m (dval x 0 r2)))) :=
  k_take (dT hx) (k_set (k_call (k_es2 (k_slice (u := S l) (w := I (f + 2)) (z := I b) rfl rfl rfl hs) rfl) hd) (keep_opt _) (wo_end 0 Φ l f b x m _))
theorem wt_no {r0 : Nat} {R : Option (Out TV)} {x4 : Option TV} (h0 : subop (S l) (I f) = some (S [r0])) (hc : ¬ (2 < b - f ∧ r0 = 48)) (k : fin (evSs Φ 1000 (woTail.drop 2) (wSt l f b m (some (I 0)) x5)) = R) : fin (evSs Φ 1000 woTail (wSt l f b m x4 x5)) = R := by
  refine k_set (v := I 0) rfl rfl (k_skip ?_ k)
  by_cases h2 : 2 < b - f
  · exact k_andT (dT h2) (k_andF ((k_cmp (k_sub rfl rfl h0) rfl (eq_c r0 48)).trans (dF fun q => hc ⟨h2, q⟩)))
  · exact k_andF (dF h2)
theorem wt_yes {r0 r1 : Nat} {R : Option (Out TV)} {x4 : Option TV} (h0 : subop (S l) (I f) = some (S [r0])) (h2 : 2 < b - f) (e : r0 = 48) (h1 : subop (S l) (I (f + 1)) = some (S [r1])) (hb : Φ 4 [S [r1]] = some (.ok (I (baseP r1)))) (k : fin (evSs Φ 1000 (woTail.drop 2) (wSt l f b m (some (I (baseP r1))) x5)) = R) :
    fin (evSs Φ 1000 woTail (wSt l f b m x4 x5)) = R :=
  k_set (v := I 0) rfl rfl (k_take (k_andT (dT h2) (k_andT ((k_cmp (k_sub rfl rfl h0) rfl (eq_c r0 48)).trans (dT e)) rfl)) (k_set (v := I (baseP r1)) (k_call (k_es1 (k_sub (w := I (f + 1)) rfl rfl h1)) hb) rfl k))
end
theorem wo_tail (d : Nat) (l r : List Nat) (f b : Int) (m : Bool) (x4 x5 : Option TV) (hr : okS r = true) (hl : r.length ≤ 300) {r0 : Nat} {rr : List Nat} (hr0 : r = r0 :: rr) (hb : b - f = r.length)
    (h0 : subop (S l) (I f) = some (S [r0])) (h1 : ∀ r1 r2 r3, rr = r1 :: r2 :: r3 → subop (S l) (I (f + 1)) = some (S [r1]) ∧ sliceop (S l) (I (f + 2)) (I b) = some (S (r2 :: r3))) (hs : sliceop (S l) (I f) (I b) = some (S r)) :
    fin (evSs (evCall tbl 1000 (d + 2)) 1000 woTail [some (S l), some (I f), some (I b), some (.val (.bool m)), x4, x5]) = some (.ok (optI (sgn m (wval r)))) := by
  subst hr0
  have hd := ev_digits d (r0 :: rr) 10 (by decide) (by decide) hl (by simp)
  have short : rr.length < 2 → ¬ (2 < b - f ∧ r0 = 48) := fun q z => by
    rw [hb] at z
    exact absurd z.1 (Int.not_lt.mpr (Int.ofNat_le.mpr (Nat.succ_le_of_lt q)))
  cases rr with
  | nil => exact wt_no h0 (short (by decide)) (wt_dec hd hs (by decide))
  | cons r1 rr =>
    cases rr with
    | nil => exact wt_no h0 (short (show 1 < 2 by decide)) (wt_dec hd hs (by decide))
    | cons r2 r3 =>
      by_cases h48 : r0 = 48
      · have h2 : 2 < b - f := by rw [hb]; exact Int.ofNat_lt.mpr (Nat.le_add_left 3 r3.length)
        have hch : isChar r1 = true := by
          have := (Bool.and_eq_true_iff.mp (show (isChar r0 && (isChar r1 && okS (r2 :: r3))) = true from hr)).2
          exact (Bool.and_eq_true_iff.mp this).1
        obtain ⟨q1, q2⟩ := h1 r1 r2 r3 rfl
        refine wt_yes h0 h2 h48 q1 (ev_base (d + 1) r1 hch) ?_
        by_cases hbp : 0 < baseP r1
        · rw [show wval (r0 :: r1 :: r2 :: r3) = dval (baseP r1) 0 (r2 :: r3) from if_pos ⟨h48, hbp⟩]
          exact wt_based (ev_digits d (r2 :: r3) (baseP r1) (base_range r1).1 (base_range r1).2 (Nat.le_trans (Nat.le_add_right _ 2) hl) (by simp)) q2 hbp
        · rw [show wval (r0 :: r1 :: r2 :: r3) = dval 10 0 (r0 :: r1 :: r2 :: r3) from if_neg fun q => hbp q.2]
          exact wt_dec hd hs hbp
      · rw [show wval (r0 :: r1 :: r2 :: r3) = dval 10 0 (r0 :: r1 :: r2 :: r3) from if_neg fun q => h48 q.1]
        exact wt_no h0 (fun q => h48 q.2) (wt_dec hd hs (by decide))

theorem loop_stop {t : Store → Option (Out Bool)} {body : Store → Option (Out (SO Store))} {σ : Store} (h : t σ = some (.ok false)) : loopP t body 1000 σ = some (.ok (.next σ)) := by
  rw [loop_succ (k := 999), h]; rfl
theorem loop_one {t : Store → Option (Out Bool)} {body : Store → Option (Out (SO Store))} {σ σ' : Store} (h : t σ = some (.ok true)) (hb : body σ = some (.ok (.next σ'))) (h' : t σ' = some (.ok false)) : loopP t body 1000 σ = some (.ok (.next σ')) := by
  rw [loop_succ (k := 999), h]
  show sbindQ (body σ) _ = _
  rw [hb]
  show loopP t body 999 σ' = _
  rw [loop_succ (k := 998), h']; rfl

theorem slice_S {l : List Nat} {a b : Int} (h0 : 0 ≤ a) (h1 : a ≤ b) (h2 : b ≤ l.length) (hl : l.length ≤ 1000000) : sliceop (S l) (I a) (I b) = some (S ((l.drop a.toNat).take (b - a).toNat)) := by
  show (if _ then _ else _) = _
  rw [if_pos ⟨h0, h1, by simpa using h2, by show l.toArray.size ≤ strTop; rw [List.size_toArray]; unfold strTop; exact hl⟩]

noncomputable def woT1 : CE := .boolop true [(.cmp .Lt (.var 1) (.var 2)), (.call 1 [(.sub (.var 0) (.var 1))])]
noncomputable def woT2 : CE := .boolop true [(.cmp .Lt (.var 1) (.var 2)), (.call 1 [(.sub (.var 0) (.bin .Sub (.var 2) (.lit (.int (1)))))])]
theorem wo_t1 {d : Nat} {l : List Nat} {f b : Int} {c : Nat} {σ : Store} (hlt : f < b) (h : subop (S l) (I f) = some (S [c])) (hc : isChar c = true) : evT (evCall tbl 1000 (d + 1)) woT1 (some (S l) :: some (I f) :: some (I b) :: σ) = some (.ok (blankP c)) := by
  unfold woT1
  simp [hlt, h, ev_blank d c hc]
  cases blankP c <;> rfl
theorem wo_t2 {d : Nat} {l : List Nat} {f b : Int} {c : Nat} {σ : Store} (hlt : f < b) (h : subop (S l) (I (b - 1)) = some (S [c])) (hc : isChar c = true) : evT (evCall tbl 1000 (d + 1)) woT2 (some (S l) :: some (I f) :: some (I b) :: σ) = some (.ok (blankP c)) := by
  unfold woT2
  simp [hlt, h, ev_blank d c hc]
  cases blankP c <;> rfl

theorem aug1_add {Φ : Nat → List TV → Option (Out TV)} {x0 : Option TV} {a : Int} {σ : Store} : evSs Φ 1000 [(.aug .Add 1 (.lit (.int (1))))] (x0 :: some (I a) :: σ) = some (.ok (.next (x0 :: some (I (a + 1)) :: σ))) := by
  simp [s_aug (σ := x0 :: some (I a) :: σ) (i := 1) (a := a) rfl]
theorem aug2_sub {Φ : Nat → List TV → Option (Out TV)} {x0 x1 : Option TV} {a : Int} {σ : Store} : evSs Φ 1000 [(.aug .Sub 2 (.lit (.int (1))))] (x0 :: x1 :: some (I a) :: σ) = some (.ok (.next (x0 :: x1 :: some (I (a - 1)) :: σ))) := by
  simp [s_aug (σ := x0 :: x1 :: some (I a) :: σ) (i := 2) (a := a) rfl]

noncomputable def woSign : CS := .ite (.boolop true [(.cmp .Lt (.var 1) (.var 2)), (.cmp .In (.sub (.var 0) (.var 1)) (.tup [(.lit (.str ⟨#[43]⟩)), (.lit (.str ⟨#[45]⟩))]))]) [
    (.assign 3 (.cmp .Eq (.sub (.var 0) (.var 1)) (.lit (.str ⟨#[45]⟩)))),
    (.aug .Add 1 (.lit (.int (1))))] []
theorem aug1_add' {Φ : Nat → List TV → Option (Out TV)} {x0 : Option TV} {a : Int} {σ : Store} : evS Φ 1000 (.aug .Add 1 (.lit (.int (1)))) (x0 :: some (I a) :: σ) = some (.ok (.next (x0 :: some (I (a + 1)) :: σ))) := by
  simp [s_aug (σ := x0 :: some (I a) :: σ) (i := 1) (a := a) rfl]
theorem wo_sign {Φ : Nat → List TV → Option (Out TV)} {l : List Nat} {f b : Int} {c : Nat} {σ : Store} (hlt : f < b) (hsub : subop (S l) (I f) = some (S [c])) (hc : isChar c = true) :
    evS Φ 1000 woSign (some (S l) :: some (I f) :: some (I b) :: some (.val (.bool false)) :: σ) = some (.ok (.next (some (S l) :: some (I (if c = 43 ∨ c = 45 then f + 1 else f)) :: some (I b) :: some (.val (.bool (decide (c = 45)))) :: σ))) := by
  have hin := in_2 (c := c) (p := 43) (q := 45) hc rfl rfl
  have ht : evT Φ (.boolop true [(.cmp .Lt (.var 1) (.var 2)), (.cmp .In (.sub (.var 0) (.var 1)) (.tup [(.lit (.str ⟨#[43]⟩)), (.lit (.str ⟨#[45]⟩))]))]) (some (S l) :: some (I f) :: some (I b) :: some (.val (.bool false)) :: σ) = some (.ok (decide (c = 43 ∨ c = 45))) :=
    k_andT (dT hlt) (by
      rw [t_bool, ts_and, k_cmp (q := decide (c = 43 ∨ c = 45)) (k_sub (u := S l) (w := I f) rfl rfl hsub) rfl hin, eb_ok]
      cases decide (c = 43 ∨ c = 45) <;> rfl)
  show ebind (evT Φ _ _) _ = _
  rw [ht, eb_ok]
  by_cases h : c = 43 ∨ c = 45
  · rw [if_pos (decide_eq_true h), if_pos h]
    have hs : evS Φ 1000 (.assign 3 (.cmp .Eq (.sub (.var 0) (.var 1)) (.lit (.str ⟨#[45]⟩)))) (some (S l) :: some (I f) :: some (I b) :: some (.val (.bool false)) :: σ) = some (.ok (.next (some (S l) :: some (I f) :: some (I b) :: some (.val (.bool (decide (c = 45)))) :: σ))) := by
      rw [s_assign, e_cmp, k_sub (u := S l) (w := I f) rfl rfl hsub, eb_ok, e_lit, eb_ok, eq_c]; rfl
    rw [ss_cons, hs, sb_next, ss_cons, aug1_add', sb_next]; rfl
  · rw [if_neg (by simpa using h), if_neg h, decide_eq_false fun q => h (.inr q)]; rfl

theorem app_get (A B C : List Nat) {k : Nat} (hk : k < B.length) : (A ++ B ++ C)[A.length + k]? = B[k]? := by
  rw [List.append_assoc, List.getElem?_append_right (Nat.le_add_right _ _), Nat.add_sub_cancel_left, List.getElem?_append_left hk]
theorem app_drop (A B C : List Nat) {k : Nat} (hk : k ≤ B.length) : ((A ++ B ++ C).drop (A.length + k)).take (B.length - k) = B.drop k := by
  rw [List.append_assoc, List.drop_append, List.drop_of_length_le (Nat.le_add_right _ _), List.nil_append, Nat.add_sub_cancel_left, List.drop_append_of_le_length hk,
    List.take_append_of_le_length (by simp), List.take_of_length_le (by simp)]
theorem sign_at {P sg r Z rr : List Nat} {r0 : Nat} (hsg : sg = [] ∨ sg = [43] ∨ sg = [45]) (hr0 : r = r0 :: rr) (hb0 : blankP r0 = false) (hs0 : r0 ≠ 43 ∧ r0 ≠ 45) :
    ∃ fc, (P ++ sg ++ r ++ Z)[P.length]? = some fc ∧ blankP fc = false ∧ (if fc = 43 ∨ fc = 45 then (P.length : Int) + 1 else P.length) = (P ++ sg).length ∧ decide (fc = 45) = decide (sg = [45]) := by
  subst hr0
  rcases hsg with rfl | rfl | rfl
  · exact ⟨r0, by simp, hb0, by rw [if_neg fun q => q.elim hs0.1 hs0.2, List.append_nil], by rw [decide_eq_false hs0.2]; rfl⟩
  · exact ⟨43, by simp, rfl, by rw [if_pos (.inl rfl), List.length_append]; rfl, rfl⟩
  · exact ⟨45, by simp, rfl, by rw [if_pos (.inr rfl), List.length_append]; rfl, rfl⟩
theorem char_at {l : List Nat} (h : okS l = true) {k c : Nat} (q : l[k]? = some c) : isChar c = true := List.all_eq_true.mp h c (List.mem_of_getElem? q)
section
variable {d : Nat} {l P : List Nat}
theorem sub_one (e : Nat) : ((e + 1 : Nat) : Int) - 1 = e := by omega
theorem wo_front {fc : Nat} (hP : P = [] ∨ ∃ p, P = [p] ∧ blankP p = true) (g1 : ∀ k, k < P.length → l[k]? = P[k]?) (hfc : l[P.length]? = some fc) (hfb : blankP fc = false) (hok : okS l = true) (h6 : l.length ≤ 1000000) :
    evS (evCall tbl 1000 (d + 2)) 1000 (.loop woT1 [(.aug .Add 1 (.lit (.int (1))))]) [some (S l), some (I 0), some (I l.length), none, none, none] = some (.ok (.next [some (S l), some (I P.length), some (I l.length), none, none, none])) := by
  have hlt : (P.length : Int) < l.length := Int.ofNat_lt.mpr (List.getElem?_eq_some_iff.mp hfc).1
  have last : evT (evCall tbl 1000 (d + 2)) woT1 [some (S l), some (I P.length), some (I l.length), none, none, none] = some (.ok false) := by
    rw [wo_t1 (d := d + 1) (c := fc) hlt (by rw [sub_Sn h6, hfc]; rfl) (char_at hok hfc), hfb]
  rcases hP with rfl | ⟨p, rfl, hp⟩
  · exact loop_stop last
  · have h0 : l[0]? = some p := g1 0 (Nat.lt_succ_self 0)
    refine loop_one ?_ aug1_add last
    rw [wo_t1 (d := d + 1) (c := p) (f := 0) (b := (l.length : Nat)) (Int.ofNat_lt.mpr (List.getElem?_eq_some_iff.mp h0).1) (by rw [show (0 : Int) = ((0 : Nat) : Int) from rfl, sub_Sn h6, h0]; rfl) (char_at hok h0), hp]
theorem wo_back {Z : List Nat} {p e rl : Nat} (hZ : Z = [] ∨ ∃ z, Z = [z] ∧ blankP z = true) (g4 : ∀ k, k < Z.length → l[e + 1 + k]? = Z[k]?) (hll : l.length = e + 1 + Z.length) (la : l[e]? = some rl) (hbl : blankP rl = false) (hp : p ≤ e) (hok : okS l = true) (h6 : l.length ≤ 1000000) :
    evS (evCall tbl 1000 (d + 2)) 1000 (.loop woT2 [(.aug .Sub 2 (.lit (.int (1))))]) [some (S l), some (I p), some (I l.length), none, none, none] = some (.ok (.next [some (S l), some (I p), some (I (e + 1 : Nat)), none, none, none])) := by
  have hlt : (p : Int) < (e + 1 : Nat) := Int.ofNat_lt.mpr (Nat.lt_succ_of_le hp)
  have last : evT (evCall tbl 1000 (d + 2)) woT2 [some (S l), some (I p), some (I (e + 1 : Nat)), none, none, none] = some (.ok false) := by
    rw [wo_t2 (d := d + 1) (c := rl) hlt (by rw [sub_one e, sub_Sn h6, la]; rfl) (char_at hok la), hbl]
  rw [hll]
  rcases hZ with rfl | ⟨z, rfl, hz⟩
  · exact loop_stop last
  · have h0 : l[e + 1]? = some z := g4 0 (Nat.lt_succ_self 0)
    refine loop_one (σ' := [some (S l), some (I p), some (I (e + 1 : Nat)), none, none, none]) ?_ ?_ last
    · rw [wo_t2 (d := d + 1) (c := z) (f := (p : Nat)) (b := (e + 1 + [z].length : Nat)) (Int.lt_trans hlt (Int.ofNat_lt.mpr (Nat.lt_succ_self _))) (by rw [show ((e + 1 + [z].length : Nat) : Int) - 1 = (e + 1 : Nat) from sub_one (e + 1), sub_Sn h6, h0]; rfl) (char_at hok h0), hz]
    · rw [aug2_sub, show ((e + 1 + [z].length : Nat) : Int) - 1 = (e + 1 : Nat) from sub_one (e + 1)]
theorem wo_mid {r rr : List Nat} {r0 f : Nat} {m : Bool} (hr0 : r = r0 :: rr) (hl : r.length ≤ 300) (hokr : okS r = true) (h6 : l.length ≤ 1000000) (hle : f + r.length ≤ l.length) (g3 : ∀ k, k < r.length → l[f + k]? = r[k]?) (hdrop : ∀ k, k ≤ r.length → (l.drop (f + k)).take (r.length - k) = r.drop k) :
    fin (evSs (evCall tbl 1000 (d + 2)) 1000 woTail [some (S l), some (I f), some (I (f + r.length : Nat)), some (.val (.bool m)), none, none]) = some (.ok (optI (sgn m (wval r)))) := by
  have sl : ∀ k, k ≤ r.length → sliceop (S l) (I ((f : Int) + (k : Nat))) (I (f + r.length : Nat)) = some (S (r.drop k)) := fun k hk => by
    rw [show (f : Int) + (k : Nat) = (f + k : Nat) from rfl, slice_S (Int.natCast_nonneg _) (Int.ofNat_le.mpr (Nat.add_le_add_left hk f)) (Int.ofNat_le.mpr hle) h6]
    rw [show (((f + r.length : Nat) : Int) - ((f + k : Nat) : Int)).toNat = r.length - k by omega, show (((f + k : Nat) : Int)).toNat = f + k from rfl, hdrop k hk]
  refine wo_tail d l r _ _ m none none hokr hl hr0 (by omega) (by rw [sub_Sn h6, show l[f]? = r[0]? from g3 0 (by rw [hr0]; exact Nat.zero_lt_succ _), hr0]; rfl) (fun r1 r2 r3 h => ⟨?_, ?_⟩) (sl 0 (Nat.zero_le _))
  · rw [show (f : Int) + 1 = ((f + 1 : Nat) : Int) from rfl, sub_Sn h6, g3 1 (by rw [hr0, h]; exact Nat.le_add_left 2 _), hr0, h]; rfl
  · have := sl 2 (by rw [hr0, h]; exact Nat.le_add_left 2 _)
    rw [hr0, h] at this
    rw [hr0, h]
    exact this
end
theorem ev_whole (d : Nat) (P sg r Z : List Nat) (hP : P = [] ∨ ∃ p, P = [p] ∧ blankP p = true) (hZ : Z = [] ∨ ∃ z, Z = [z] ∧ blankP z = true) (hsg : sg = [] ∨ sg = [43] ∨ sg = [45])
    (r0 : Nat) (rr : List Nat) (hr0 : r = r0 :: rr) (hb0 : blankP r0 = false) (hs0 : r0 ≠ 43 ∧ r0 ≠ 45) (rl : Nat) (hrl : r.getLast? = some rl) (hbl : blankP rl = false) (hl : r.length ≤ 300) (hok : okS (P ++ sg ++ r ++ Z) = true) :
    evCall tbl 1000 (d + 3) 5 [S (P ++ sg ++ r ++ Z)] = some (.ok (optI (sgn (decide (sg = [45])) (wval r)))) := by
  obtain ⟨fc, hfc, hfb, hsel, h45⟩ := sign_at (P := P) (Z := Z) hsg hr0 hb0 hs0
  have n4 : (P ++ sg ++ r ++ Z).length = (P ++ sg).length + r.length + Z.length := by rw [List.length_append, List.length_append]
  have n1 : r.length = rr.length + 1 := by rw [hr0]; rfl
  have n6 : (P ++ sg ++ r ++ Z).length ≤ 1000000 := by
    have hPl : P.length ≤ 1 := by rcases hP with rfl | ⟨p, rfl, _⟩ <;> simp
    have hZl : Z.length ≤ 1 := by rcases hZ with rfl | ⟨p, rfl, _⟩ <;> simp
    have hsl : sg.length ≤ 1 := by rcases hsg with rfl | rfl | rfl <;> simp
    rw [n4, List.length_append]
    exact Nat.le_trans (Nat.add_le_add (Nat.add_le_add (Nat.add_le_add hPl hsl) hl) hZl) (by decide)
  have hokr : okS r = true := List.all_eq_true.mpr fun c hc => List.all_eq_true.mp hok c (List.mem_append_left _ (List.mem_append_right _ hc))
  have g1 : ∀ k, k < P.length → (P ++ sg ++ r ++ Z)[k]? = P[k]? := fun k hk => by
    rw [List.append_assoc, List.append_assoc, List.getElem?_append_left hk]
  have g3 : ∀ k, k < r.length → (P ++ sg ++ r ++ Z)[(P ++ sg).length + k]? = r[k]? := fun k hk => app_get _ _ _ hk
  have hdrop : ∀ k, k ≤ r.length → ((P ++ sg ++ r ++ Z).drop ((P ++ sg).length + k)).take (r.length - k) = r.drop k := fun k hk => app_drop _ _ _ hk
  have e : (P ++ sg).length + r.length = (P ++ sg).length + rr.length + 1 := by rw [n1]; rfl
  have g4 : ∀ k, k < Z.length → (P ++ sg ++ r ++ Z)[(P ++ sg).length + rr.length + 1 + k]? = Z[k]? := fun k hk => by
    have := app_get (P ++ sg ++ r) Z [] hk
    rw [List.append_nil, List.length_append, e] at this
    exact this
  have la : (P ++ sg ++ r ++ Z)[(P ++ sg).length + rr.length]? = some rl := by
    rw [g3 rr.length (by rw [n1]; exact Nat.lt_succ_self _), ← hrl, List.getLast?_eq_getElem?, n1]; rfl
  have hp : P.length ≤ (P ++ sg).length + rr.length := by rw [List.length_append, Nat.add_assoc]; exact Nat.le_add_right _ _
  have FL := wo_front (d := d) hP g1 hfc hfb hok n6
  have BL := wo_back (d := d) hZ g4 (by rw [n4, e]) la hbl hp hok n6
  have TL := wo_mid (d := d) (m := decide (fc = 45)) hr0 hl hokr n6 (by rw [n4]; exact Nat.le_add_right _ _) g3 hdrop
  have hch := char_at hok hfc
  clear g1 g3 g4 hdrop la hok hokr hP hZ hsg hl
  rw [h45] at TL
  rw [e] at TL
  generalize P ++ sg ++ r ++ Z = l at *
  have sg1 := wo_sign (Φ := evCall tbl 1000 (d + 2)) (σ := [none, none]) (l := l) (f := (P.length : Nat)) (b := ((P ++ sg).length + rr.length + 1 : Nat)) (c := fc) (Int.ofNat_lt.mpr (Nat.lt_succ_of_le hp)) (by rw [sub_Sn n6, hfc]; rfl) hch
  rw [h45, hsel] at sg1
  have step1 : evS (evCall tbl 1000 (d + 2)) 1000 (.assignT [1, 2] (.tup [(.lit (.int (0))), (.len (.var 0))])) [some (S l), none, none, none, none, none] = some (.ok (.next [some (S l), some (I 0), some (I l.length), none, none, none])) := by
    simp [len_S n6, okSize]
  exact (ev_fn (c := f_whole_of) rfl (by decide) rfl rfl).trans (k_do step1 (k_do FL (k_do BL (k_set (v := .val (.bool false)) rfl rfl (k_do sg1 TL)))))
end NP
end
section
open PySem PySem.Calls PyProof.Rows PySem.W PySem.Spec
set_option maxRecDepth 100000
namespace NP

noncomputable def T16 : List Nat := [48, 49, 50, 51, 52, 53, 54, 55, 56, 57, 97, 66, 99, 68, 101, 70]
noncomputable def Td (k : Nat) : Nat := T16.getD k 0
theorem td_get {k : Nat} (h : k < 16) : T16[k]? = some (Td k) := by
  have : ∀ k : Fin 16, T16[k.val]? = some (Td k.val) := by decide
  exact this ⟨k, h⟩
theorem td_digit {k : Nat} (h : k < 16) : digitP (Td k) = k := by
  have : ∀ k : Fin 16, digitP (Td k.val) = (k.val : Int) := by decide
  exact this ⟨k, h⟩
theorem td_plain {k : Nat} (h : k < 16) : blankP (Td k) = false ∧ Td k ≠ 43 ∧ Td k ≠ 45 ∧ isChar (Td k) = true ∧ (k ≠ 0 → Td k ≠ 48) := by
  have : ∀ k : Fin 16, blankP (Td k.val) = false ∧ Td k.val ≠ 43 ∧ Td k.val ≠ 45 ∧ isChar (Td k.val) = true ∧ (k.val ≠ 0 → Td k.val ≠ 48) := by decide
  exact this ⟨k, h⟩

noncomputable def dgs (b : Nat) (n : Nat) : List Nat := if h : n < b ∨ b < 2 then [Td n] else dgs b (n / b) ++ [Td (n % b)]
termination_by n
decreasing_by
  have : ¬ (n < b ∨ b < 2) := h
  exact Nat.div_lt_self (by omega) (by omega)
theorem dgs_lt {b n : Nat} (h : n < b) : dgs b n = [Td n] := by rw [dgs, dif_pos (.inl h)]
theorem dgs_ge {b n : Nat} (hb : 2 ≤ b) (h : b ≤ n) : dgs b n = dgs b (n / b) ++ [Td (n % b)] := by rw [dgs, dif_neg (by omega)]

theorem dval_append (b : Int) : ∀ (l : List Nat) (v : Int) (c : Nat), dval b v (l ++ [c]) = (dval b v l).bind fun v' => dval b v' [c]
  | [], v, c => rfl
  | x :: l, v, c => by
    show (if _ then _ else _) = Option.bind (if _ then _ else _) _
    split
    · rfl
    · exact dval_append b l _ c
theorem dval_dgs {b : Nat} (hb : 2 ≤ b) (hb16 : b ≤ 16) (n : Nat) : dval b 0 (dgs b n) = some (n : Int) := by
  induction n using Nat.strongRecOn with
  | _ n ih =>
    by_cases h : n < b
    · rw [dgs_lt h]
      show (if _ then _ else _) = _
      rw [td_digit (by omega), if_neg (by omega)]
      show some _ = _
      simp
    · rw [dgs_ge hb (by omega), dval_append, ih (n / b) (Nat.div_lt_self (by omega) (by omega))]
      show (if _ then _ else _) = _
      have hm : n % b < b := Nat.mod_lt _ (by omega)
      rw [td_digit (by omega), if_neg (by omega)]
      show some _ = _
      have := Nat.div_add_mod n b
      have e : ((n / b : Nat) : Int) * b + ((n % b : Nat) : Int) = ((b * (n / b) + n % b : Nat) : Int) := by push_cast; rw [Int.mul_comm]
      rw [e, this]
theorem dgs_all {b : Nat} (hb : 2 ≤ b) (hb16 : b ≤ 16) (n : Nat) : (∀ c ∈ dgs b n, ∃ k, k < 16 ∧ c = Td k) ∧ (∃ k r, k < 16 ∧ dgs b n = Td k :: r ∧ (r ≠ [] → k ≠ 0)) ∧ ∃ k, k < 16 ∧ (dgs b n).getLast? = some (Td k) := by
  induction n using Nat.strongRecOn with
  | _ n ih =>
    by_cases h : n < b
    · rw [dgs_lt h]
      refine ⟨fun c hc => ⟨n, by omega, by simpa using hc⟩, ⟨n, [], by omega, rfl, fun q => absurd rfl q⟩, n, by omega, rfl⟩
    · rw [dgs_ge hb (by omega)]
      have hm : n % b < b := Nat.mod_lt _ (by omega)
      obtain ⟨i1, ⟨k, r, i2, i3, i4⟩, _⟩ := ih (n / b) (Nat.div_lt_self (by omega) (by omega))
      refine ⟨fun c hc => ?_, ⟨k, r ++ [Td (n % b)], i2, by rw [i3]; rfl, fun _ => ?_⟩, n % b, by omega, by simp⟩
      · rcases List.mem_append.mp hc with hc | hc
        · exact i1 c hc
        · exact ⟨n % b, by omega, by simpa using hc⟩
      · by_cases hr : r = []
        · subst hr
          intro hk
          subst hk
          have := dval_dgs hb hb16 (n / b)
          rw [i3] at this
          have h2 : dval b 0 [Td 0] = some 0 := by
            show (if _ then _ else _) = _
            rw [td_digit (by omega), if_neg (by omega)]
            show some _ = _
            simp
          rw [h2] at this
          have h3 : n / b = 0 := by
            have := Option.some.inj this
            omega
          have := Nat.div_pos (show b ≤ n by omega) (by omega)
          omega
        · exact i4 hr
theorem dgs_len {b : Nat} (hb : 2 ≤ b) : ∀ (k n : Nat), n < 2 ^ k → (dgs b n).length ≤ k + 1 := by
  intro k
  induction k with
  | zero => intro n h; have : n = 0 := by simpa using h
            subst this; rw [dgs_lt (by omega)]; simp
  | succ k ih =>
    intro n h
    by_cases hn : n < b
    · rw [dgs_lt hn]; simp
    · rw [dgs_ge hb (by omega), List.length_append]
      have : n / b < 2 ^ k := by
        rw [Nat.div_lt_iff_lt_mul (by omega)]
        have : 2 ^ (k + 1) ≤ 2 ^ k * b := by rw [Nat.pow_succ]; exact Nat.mul_le_mul_left _ hb
        omega
      have := ih _ this
      simp
      omega

noncomputable def lwT : CE := .boolop false [(.cmp .Gt (.var 2) (.lit (.int (0)))), (.cmp .Eq (.var 5) (.lit (.str ⟨#[]⟩)))]
noncomputable def lwB : List CS := [
    (.assign 5 (.bin .Add (.sub (.lit (.str ⟨#[48, 49, 50, 51, 52, 53, 54, 55, 56, 57, 97, 66, 99, 68, 101, 70]⟩)) (.bin .Mod (.var 2) (.var 4))) (.var 5))),
    (.assign 2 (.bin .FloorDiv (.var 2) (.var 4)))]
noncomputable def lwS (x0 x1 x3 : Option TV) (rest b : Nat) (ds : List Nat) (x6 x7 : Option TV) : Store := [x0, x1, some (I rest), x3, some (I b), some (S ds), x6, x7]
section
variable {Φ : Nat → List TV → Option (Out TV)} {x0 x1 x3 x6 x7 : Option TV}
theorem mod_I {a b : Int} (h : b ≠ 0) : binop .Mod (I a) (I b) = some (I (a.fmod b)) := by
  show (if _ then _ else _) = _
  rw [if_pos h]
theorem div_I {a b : Int} (h : b ≠ 0) (hb : inTop b = true) : binop .FloorDiv (I a) (I b) = some (I (a.fdiv b)) := by
  show (if _ then _ else _) = _
  rw [if_pos ⟨h, hb⟩]
theorem inTop_small {b : Int} (h : b.natAbs ≤ 2 ^ 200) : inTop b = true := by
  unfold inTop top
  refine decide_eq_true (Nat.lt_of_le_of_lt h (Nat.pow_lt_pow_right (by decide) (by decide)))
theorem lw_t (rest b : Nat) (ds : List Nat) : evT Φ lwT (lwS x0 x1 x3 rest b ds x6 x7) = some (.ok (decide (0 < rest) || decide (ds = []))) := by
  unfold lwT lwS
  have h1 := eq_S ds []
  by_cases h : 0 < rest
  · simp [h]
  · have h0 : rest = 0 := by omega
    subst h0
    by_cases hd : ds = [] <;> simp [hd]
theorem lw_b {rest b : Nat} {ds : List Nat} (hb : 2 ≤ b) (hb16 : b ≤ 16) (hl : ds.length ≤ 1000) : evSs Φ 1000 lwB (lwS x0 x1 x3 rest b ds x6 x7) = some (.ok (.next (lwS x0 x1 x3 (rest / b) b (Td (rest % b) :: ds) x6 x7))) := by
  have hm : rest % b < b := Nat.mod_lt _ (by omega)
  have e1 : (rest : Int).fmod (b : Int) = ((rest % b : Nat) : Int) := by rw [Int.fmod_eq_emod_of_nonneg _ (Int.natCast_nonneg b)]; exact (Int.natCast_emod rest b).symm
  have e2 : (rest : Int).fdiv (b : Int) = ((rest / b : Nat) : Int) := by rw [Int.fdiv_eq_ediv_of_nonneg _ (Int.natCast_nonneg b)]; exact (Int.natCast_ediv rest b).symm
  have hb0 : (b : Int) ≠ 0 := by omega
  have hT : inTop (b : Int) = true := inTop_small (Nat.le_trans (show ((b : Int).natAbs) ≤ 16 by omega) (by decide))
  have hsub : subop (.val (.str ⟨#[48, 49, 50, 51, 52, 53, 54, 55, 56, 57, 97, 66, 99, 68, 101, 70]⟩)) (I ((rest % b : Nat) : Int)) = some (S [Td (rest % b)]) := by
    have := sub_Sn (l := T16) (k := rest % b) (by decide)
    rw [td_get (by omega)] at this
    exact this
  have hadd := add_S (a := [Td (rest % b)]) (b := ds) (by simp; omega)
  unfold lwB lwS
  simp only [ss_cons, s_assign, e_bin, e_sub, e_lit, e_var, eb_ok, sget_succ, sget_zero, Option.map_some, view_val, lift_some, mod_I hb0, e1, hsub, hadd, keep_str, if_true, sb_next, sset_succ, sset_zero, div_I hb0 hT, e2, keep_int, ss_nil]
  rfl
theorem lw_loop {b : Nat} (hb : 2 ≤ b) (hb16 : b ≤ 16) : ∀ (k j rest : Nat) (ds : List Nat), rest < 2 ^ k → ds ≠ [] → ds.length + k ≤ 1000 →
    loopP (evT Φ lwT) (evSs Φ 1000 lwB) (k + 1 + j) (lwS x0 x1 x3 rest b ds x6 x7) = some (.ok (.next (lwS x0 x1 x3 0 b (if rest = 0 then ds else dgs b rest ++ ds) x6 x7))) := by
  intro k
  induction k with
  | zero =>
    intro j rest ds h hne hl
    have : rest = 0 := by simpa using h
    subst this
    rw [show 0 + 1 + j = j + 1 by omega, loop_succ, lw_t]
    simp [hne]
  | succ k ih =>
    intro j rest ds h hne hl
    rw [show k + 1 + 1 + j = (k + 1 + j) + 1 by omega, loop_succ, lw_t]
    by_cases h0 : rest = 0
    · subst h0
      simp [hne]
    · have hpos : 0 < rest := by omega
      rw [show (decide (0 < rest) || decide (ds = [])) = true by simp [hpos], eb_ok, if_pos rfl, lw_b hb hb16 (by omega), sb_next]
      have hd : rest / b < 2 ^ k := by
        rw [Nat.div_lt_iff_lt_mul (by omega)]
        have : 2 ^ (k + 1) ≤ 2 ^ k * b := by rw [Nat.pow_succ]; exact Nat.mul_le_mul_left _ hb
        omega
      rw [ih j _ _ hd (by simp) (by simp; omega), if_neg h0]
      by_cases hq : rest < b
      · rw [dgs_lt hq, Nat.div_eq_of_lt hq, Nat.mod_eq_of_lt hq, if_pos rfl]
        rfl
      · have : rest / b ≠ 0 := by
          have := Nat.div_pos (show b ≤ rest by omega) (by omega)
          omega
        rw [if_neg this, dgs_ge hb (show b ≤ rest by omega), List.append_assoc]
        rfl
theorem lw_all {b : Nat} (hb : 2 ≤ b) (hb16 : b ≤ 16) (n : Nat) (h : n < 2 ^ 300) :
    evS Φ 1000 (.loop lwT lwB) (lwS x0 x1 x3 n b [] x6 x7) = some (.ok (.next (lwS x0 x1 x3 0 b (dgs b n) x6 x7))) := by
  rw [s_loop, loop_succ (k := 999), lw_t]
  simp only [decide_true, Bool.or_true, eb_ok, if_true]
  rw [lw_b hb hb16 (by simp), sb_next]
  have hd : n / b < 2 ^ 300 := Nat.lt_of_le_of_lt (Nat.div_le_self _ _) h
  rw [show (999 : Nat) = 300 + 1 + 698 from rfl, lw_loop hb hb16 300 698 (n / b) [Td (n % b)] hd (by simp) (by simp)]
  by_cases hq : n < b
  · rw [dgs_lt hq, Nat.div_eq_of_lt hq, Nat.mod_eq_of_lt hq, if_pos rfl]
  · have : n / b ≠ 0 := by
      have := Nat.div_pos (show b ≤ n by omega) (by omega)
      omega
    rw [if_neg this, dgs_ge hb (show b ≤ n by omega)]
end
end NP
end
section
open PySem PySem.Calls PyProof.Rows PySem.W PySem.Spec
set_option maxRecDepth 100000
namespace NP

theorem fmod_nat (a : Int) {m : Nat} (hm : 0 < m) : ∃ k : Nat, k < m ∧ a.fmod (m : Int) = k := by
  have h1 : a.fmod (m : Int) = a % m := Int.fmod_eq_emod_of_nonneg _ (Int.natCast_nonneg m)
  refine ⟨(a % m).toNat, ?_, ?_⟩
  · have := Int.emod_lt_of_pos a (show (0 : Int) < m by omega)
    have := Int.emod_nonneg a (show (m : Int) ≠ 0 by omega)
    omega
  · have := Int.emod_nonneg a (show (m : Int) ≠ 0 by omega)
    rw [h1]; omega
theorem sub_T {xs : List PyData} {k : Nat} {d : PyData} (h : xs[k]? = some d) (hl : xs.length ≤ 1000) : subop (.val (.tuple xs)) (I (k : Nat)) = some (.val d) := by
  show (if _ then _ else _) = _
  rw [if_pos ⟨Int.natCast_nonneg k, hl⟩]
  show (xs[k]?).map TV.val = _
  rw [h]; rfl
theorem abs_I (a : Int) : absop (I a) = some (I (a.natAbs : Nat)) := by
  show some (I (if a < 0 then -a else a)) = _
  congr 2
  by_cases h : a < 0
  · rw [if_pos h]; congr 1; omega
  · rw [if_neg h]; congr 1; omega
theorem pow_I {a n : Int} (h0 : 0 ≤ n) (h1 : n ≤ 100) (ha : inTop a = true) : binop .Pow (I a) (I n) = some (I (a ^ n.toNat)) := by
  show (if _ then _ else _) = _
  rw [if_pos ⟨h0, h1, ha⟩]

noncomputable def bL : List Nat := [10, 16, 8, 2, 10]
noncomputable def pxL : List (List Nat) := [[], [48, 88], [48, 111], [48, 98], [48, 100, 48, 48]]
noncomputable def bOf (w : Nat) : Nat := bL.getD w 10
noncomputable def pxOf (w : Nat) : List Nat := pxL.getD w []

theorem wval_b {c : Nat} (hc : baseP c > 0) {l : List Nat} (hl : l ≠ []) : wval (48 :: c :: l) = dval (baseP c) 0 l := by
  cases l with
  | nil => exact absurd rfl hl
  | cons x r => show (if _ then _ else _) = _; rw [if_pos ⟨rfl, hc⟩]

theorem w_ok {w n : Nat} (hw : w < 5) (h : n < 2 ^ 300) : okS (pxOf w ++ dgs (bOf w) n) = true ∧ (pxOf w ++ dgs (bOf w) n).length ≤ 310 ∧ wval (pxOf w ++ dgs (bOf w) n) = some (n : Int) ∧
    (∃ r0 rr, pxOf w ++ dgs (bOf w) n = r0 :: rr ∧ blankP r0 = false ∧ r0 ≠ 43 ∧ r0 ≠ 45) ∧ ∃ rl, (pxOf w ++ dgs (bOf w) n).getLast? = some rl ∧ blankP rl = false := by
  have hb : 2 ≤ bOf w ∧ bOf w ≤ 16 := by
    have : ∀ w : Fin 5, 2 ≤ bOf w.val ∧ bOf w.val ≤ 16 := by decide
    exact this ⟨w, hw⟩
  obtain ⟨a1, ⟨k, r, a2, a3, a4⟩, kl, a5, a6⟩ := dgs_all hb.1 hb.2 n
  have hlen := dgs_len hb.1 300 n h
  have hv := dval_dgs hb.1 hb.2 n
  have hok : okS (dgs (bOf w) n) = true := List.all_eq_true.mpr fun c hc => by
    obtain ⟨k, hk, rfl⟩ := a1 c hc
    exact (td_plain hk).2.2.2.1
  have hlast : ∃ rl, (pxOf w ++ dgs (bOf w) n).getLast? = some rl ∧ blankP rl = false := ⟨Td kl, by rw [List.getLast?_append, a6]; rfl, (td_plain a5).1⟩
  have hpx : okS (pxOf w) = true ∧ (pxOf w).length ≤ 4 := by
    have : ∀ w : Fin 5, okS (pxOf w.val) = true ∧ (pxOf w.val).length ≤ 4 := by decide
    exact this ⟨w, hw⟩
  refine ⟨?_, by rw [List.length_append]; omega, ?_, ?_, hlast⟩
  · unfold okS at *
    rw [List.all_append, hpx.1, hok]; rfl
  · have d0 : dval 10 0 (48 :: 48 :: dgs 10 n) = dval 10 0 (dgs 10 n) := by
      show (if _ then _ else (if _ then _ else _)) = _
      rfl
    obtain rfl | rfl | rfl | rfl | rfl : w = 0 ∨ w = 1 ∨ w = 2 ∨ w = 3 ∨ w = 4 := lt5 (by first | assumption | omega)
    · show wval (dgs 10 n) = _
      rw [show dgs 10 n = Td k :: r from a3]
      cases r with
      | nil => rw [← show dgs 10 n = [Td k] from a3]; exact (show wval (dgs 10 n) = dval 10 0 (dgs 10 n) by rw [show dgs 10 n = [Td k] from a3]; rfl).trans hv
      | cons r1 r =>
        have hk48 := (td_plain a2).2.2.2.2 (a4 (by simp))
        have e : wval (Td k :: r1 :: r) = dval 10 0 (Td k :: r1 :: r) := by
          cases r with
          | nil => rfl
          | cons r2 r => show (if _ then _ else _) = _; rw [if_neg fun q => hk48 q.1]
        rw [e, ← show dgs 10 n = Td k :: r1 :: r from a3]
        exact hv
    · show wval (48 :: 88 :: dgs 16 n) = _
      rw [wval_b (by decide) (by rw [show dgs 16 n = Td k :: r from a3]; simp)]
      exact hv
    · show wval (48 :: 111 :: dgs 8 n) = _
      rw [wval_b (by decide) (by rw [show dgs 8 n = Td k :: r from a3]; simp)]
      exact hv
    · show wval (48 :: 98 :: dgs 2 n) = _
      rw [wval_b (by decide) (by rw [show dgs 2 n = Td k :: r from a3]; simp)]
      exact hv
    · show wval (48 :: 100 :: 48 :: 48 :: dgs 10 n) = _
      rw [wval_b (by decide) (by simp)]
      exact d0.trans hv
  · obtain rfl | rfl | rfl | rfl | rfl : w = 0 ∨ w = 1 ∨ w = 2 ∨ w = 3 ∨ w = 4 := lt5 (by first | assumption | omega)
    · exact ⟨Td k, r, a3, (td_plain a2).1, (td_plain a2).2.1, (td_plain a2).2.2.1⟩
    all_goals exact ⟨48, _, rfl, by decide, by decide, by decide⟩

theorem wr_len {P sg px D Z : List Nat} (p1 : P.length ≤ 1) (p2 : sg.length ≤ 1) (p3 : px.length ≤ 4) (p4 : D.length ≤ 291) (p5 : Z.length ≤ 1) :
    (sg.length + px.length ≤ 1000000 ∧ (sg ++ px).length + D.length ≤ 1000000) ∧ (P.length + (sg ++ px ++ D).length ≤ 1000000 ∧ (P ++ (sg ++ px ++ D)).length + Z.length ≤ 1000000) ∧ (P ++ sg ++ (px ++ D) ++ Z).length ≤ 320 := by
  simp only [List.length_append]; omega
theorem blank_num {c : Nat} (h : c = 32 ∨ c = 9 ∨ c = 10 ∨ c = 11 ∨ c = 12 ∨ c = 13) : isChar c = true := by rcases h with rfl | rfl | rfl | rfl | rfl | rfl <;> rfl
theorem ev_written (n way : Int) (hn : n.natAbs < 2 ^ 290) : ∃ l, (∀ d, evCall tbl 1000 (d + 1) 33 [I n, I way] = some (.ok (S l))) ∧ okS l = true ∧ l.length ≤ 320 ∧ ∀ d, evCall tbl 1000 (d + 3) 5 [S l] = some (.ok (I n)) := by
  have hn3 : n.natAbs < 2 ^ 300 := Nat.lt_trans hn (Nat.pow_lt_pow_right (by decide) (by decide))
  obtain ⟨w, hw, hwe⟩ : ∃ w : Nat, w < 5 ∧ (if (n.natAbs : Int) < 65536 then way.fmod 5 else way.fmod 2) = (w : Int) := by
    by_cases h : (n.natAbs : Int) < 65536
    · obtain ⟨k, h1, h2⟩ := fmod_nat way (m := 5) (by decide)
      exact ⟨k, h1, by rw [if_pos h]; exact h2⟩
    · obtain ⟨k, h1, h2⟩ := fmod_nat way (m := 2) (by decide)
      exact ⟨k, by omega, by rw [if_neg h]; exact h2⟩
  obtain ⟨q5, h5, e5⟩ := fmod_nat (way.fdiv 5) (m := 2) (by decide)
  obtain ⟨q10, h10, e10⟩ := fmod_nat (way.fdiv 10) (m := 3) (by decide)
  obtain ⟨q30, h30, e30⟩ := fmod_nat (way.fdiv 30) (m := 2) (by decide)
  obtain ⟨P, hP, hPs⟩ : ∃ P : List Nat, (P = [] ∨ ∃ p, P = [p] ∧ blankP p = true) ∧ subop (.val (.tuple [.str ⟨#[]⟩, .str ⟨#[32]⟩, .str ⟨#[10]⟩])) (I (q10 : Nat)) = some (S P) := by
    obtain rfl | rfl | rfl : q10 = 0 ∨ q10 = 1 ∨ q10 = 2 := lt3 (by first | assumption | omega)
    · exact ⟨[], .inl rfl, sub_T rfl (by decide)⟩
    · exact ⟨[32], .inr ⟨_, rfl, by decide⟩, sub_T rfl (by decide)⟩
    · exact ⟨[10], .inr ⟨_, rfl, by decide⟩, sub_T rfl (by decide)⟩
  obtain ⟨Z, hZ, hZs⟩ : ∃ P : List Nat, (P = [] ∨ ∃ p, P = [p] ∧ blankP p = true) ∧ subop (.val (.tuple [.str ⟨#[]⟩, .str ⟨#[9]⟩])) (I (q30 : Nat)) = some (S P) := by
    obtain rfl | rfl : q30 = 0 ∨ q30 = 1 := lt2 (by first | assumption | omega)
    · exact ⟨[], .inl rfl, sub_T rfl (by decide)⟩
    · exact ⟨[9], .inr ⟨_, rfl, by decide⟩, sub_T rfl (by decide)⟩
  obtain ⟨sp, hsp, hsps⟩ : ∃ P : List Nat, (P = [] ∨ P = [43]) ∧ subop (.val (.tuple [.str ⟨#[]⟩, .str ⟨#[43]⟩])) (I (q5 : Nat)) = some (S P) := by
    obtain rfl | rfl : q5 = 0 ∨ q5 = 1 := lt2 (by first | assumption | omega)
    · exact ⟨[], .inl rfl, sub_T rfl (by decide)⟩
    · exact ⟨[43], .inr rfl, sub_T rfl (by decide)⟩
  have hbs : subop (.val (.tuple [.int 10, .int 16, .int 8, .int 2, .int 10])) (I (w : Nat)) = some (I (bOf w : Nat)) := by
    obtain rfl | rfl | rfl | rfl | rfl : w = 0 ∨ w = 1 ∨ w = 2 ∨ w = 3 ∨ w = 4 := lt5 (by first | assumption | omega)
    all_goals exact sub_T rfl (by decide)
  have hxs : subop (.val (.tuple [.str ⟨#[]⟩, .str ⟨#[48, 88]⟩, .str ⟨#[48, 111]⟩, .str ⟨#[48, 98]⟩, .str ⟨#[48, 100, 48, 48]⟩])) (I (w : Nat)) = some (S (pxOf w)) := by
    obtain rfl | rfl | rfl | rfl | rfl : w = 0 ∨ w = 1 ∨ w = 2 ∨ w = 3 ∨ w = 4 := lt5 (by first | assumption | omega)
    all_goals exact sub_T rfl (by decide)
  obtain ⟨o1, o2, o3, ⟨r0, rr, o4, o5, o6, o7⟩, rl, o8, o9⟩ := w_ok hw hn3
  have hb16 : 2 ≤ bOf w ∧ bOf w ≤ 16 := by
    have : ∀ w : Fin 5, 2 ≤ bOf w.val ∧ bOf w.val ≤ 16 := by decide
    exact this ⟨w, hw⟩
  let sg := if n < 0 then [45] else sp
  have hsg : sg = [] ∨ sg = [43] ∨ sg = [45] := by
    by_cases h : n < 0
    · exact .inr (.inr (if_pos h))
    · have e : sg = sp := if_neg h
      rw [e]
      rcases hsp with h | h
      · exact .inl h
      · exact .inr (.inl h)
  have hPl : P.length ≤ 1 := by rcases hP with rfl | ⟨p, rfl, _⟩ <;> simp
  have hZl : Z.length ≤ 1 := by rcases hZ with rfl | ⟨p, rfl, _⟩ <;> simp
  have hsl : sg.length ≤ 1 := by rcases hsg with h | h | h <;> rw [h] <;> simp
  have hdl := dgs_len hb16.1 290 n.natAbs hn
  have hpl : (pxOf w).length ≤ 4 := by
    have : ∀ w : Fin 5, (pxOf w.val).length ≤ 4 := by decide
    exact this ⟨w, hw⟩
  have WL := wr_len hPl hsl hpl (Nat.le_trans hdl (by decide)) hZl
  have okb : ∀ {l : List Nat}, (l = [] ∨ ∃ p, l = [p] ∧ blankP p = true) → okS l = true := fun {l} h => by
    rcases h with rfl | ⟨p, rfl, hp⟩
    · rfl
    · unfold blankP at hp
      simp only [Bool.or_eq_true, decide_eq_true_eq] at hp
      show (isChar p && true) = true
      rw [blank_num hp]; rfl
  have oksg : okS sg = true := by rcases hsg with h | h | h <;> rw [h] <;> decide
  have hok : okS (P ++ sg ++ (pxOf w ++ dgs (bOf w) n.natAbs) ++ Z) = true := by
    have a := okb hP
    have b := okb hZ
    unfold okS at *
    simp only [List.all_append, a, b, oksg, Bool.true_and, Bool.and_true]
    rw [List.all_append] at o1
    exact o1
  refine ⟨P ++ sg ++ (pxOf w ++ dgs (bOf w) n.natAbs) ++ Z, fun d => ?_, hok, WL.2.2, fun d => ?_⟩
  · rw [ev_fn (c := f_law_written) rfl (by decide) rfl rfl]
    have hpow : binop .Pow (I 2) (I 16) = some (I 65536) := pow_I (by decide) (by decide) (inTop_small (Nat.le_trans (show (2 : Int).natAbs ≤ 2 by decide) (by decide)))
    have m5 := mod_I (a := way) (b := 5) (by decide)
    have m2 := mod_I (a := way) (b := 2) (by decide)
    have T : ∀ z : Int, z.natAbs ≤ 100 → inTop z = true := fun z h => inTop_small (Nat.le_trans h (by decide))
    have f5 := div_I (a := way) (b := 5) (by decide) (T 5 (by decide))
    have f10 := div_I (a := way) (b := 10) (by decide) (T 10 (by decide))
    have f30 := div_I (a := way) (b := 30) (by decide) (T 30 (by decide))
    have q5' := mod_I (a := way.fdiv 5) (b := 2) (by decide)
    have q10' := mod_I (a := way.fdiv 10) (b := 3) (by decide)
    have q30' := mod_I (a := way.fdiv 30) (b := 2) (by decide)
    rw [show (way.fdiv 5).fmod 2 = (q5 : Int) from e5] at q5'
    rw [show (way.fdiv 10).fmod 3 = (q10 : Int) from e10] at q10'
    rw [show (way.fdiv 30).fmod 2 = (q30 : Int) from e30] at q30'
    generalize hΦ : evCall tbl 1000 d = Φ
    have s2 : evS Φ 1000 (.assign 3 (.ife (.cmp .Lt (.var 2) (.bin .Pow (.lit (.int (2))) (.lit (.int (16))))) (.bin .Mod (.var 1) (.lit (.int (5)))) (.bin .Mod (.var 1) (.lit (.int (2)))))) [some (I n), some (I way), some (I (n.natAbs : Nat)), none, none, none, none, none] = some (.ok (.next [some (I n), some (I way), some (I (n.natAbs : Nat)), some (I (w : Nat)), none, none, none, none])) := by
      by_cases h : (n.natAbs : Int) < 65536
      · rw [if_pos h] at hwe
        simp [hpow, h, m5, hwe]
      · rw [if_neg h] at hwe
        simp [hpow, h, m2, hwe]
    have s1 : evS Φ 1000 (.assign 2 (.abs (.var 0))) [some (I n), some (I way), none, none, none, none, none, none] = some (.ok (.next [some (I n), some (I way), some (I (n.natAbs : Nat)), none, none, none, none, none])) := by
      simp [abs_I]
    have s3 : evS Φ 1000 (.assign 4 (.sub (.tup [(.lit (.int (10))), (.lit (.int (16))), (.lit (.int (8))), (.lit (.int (2))), (.lit (.int (10)))]) (.var 3))) [some (I n), some (I way), some (I (n.natAbs : Nat)), some (I (w : Nat)), none, none, none, none] = some (.ok (.next [some (I n), some (I way), some (I (n.natAbs : Nat)), some (I (w : Nat)), some (I (bOf w : Nat)), none, none, none])) := by
      simp [okSize, hbs]
    have s4 : evS Φ 1000 (.assign 5 (.lit (.str ⟨#[]⟩))) [some (I n), some (I way), some (I (n.natAbs : Nat)), some (I (w : Nat)), some (I (bOf w : Nat)), none, none, none] = some (.ok (.next (lwS (some (I n)) (some (I way)) (some (I (w : Nat))) n.natAbs (bOf w) [] none none))) := by
      simp [lwS]
    have s5 := lw_all (Φ := Φ) (x0 := some (I n)) (x1 := some (I way)) (x3 := some (I (w : Nat))) (x6 := none) (x7 := none) hb16.1 hb16.2 n.natAbs hn3
    generalize hD : dgs (bOf w) n.natAbs = D at *
    have s6 : evS Φ 1000 (.assign 6 (.ife (.cmp .Lt (.var 0) (.lit (.int (0)))) (.lit (.str ⟨#[45]⟩)) (.sub (.tup [(.lit (.str ⟨#[]⟩)), (.lit (.str ⟨#[43]⟩))]) (.bin .Mod (.bin .FloorDiv (.var 1) (.lit (.int (5)))) (.lit (.int (2))))))) (lwS (some (I n)) (some (I way)) (some (I (w : Nat))) 0 (bOf w) D none none) = some (.ok (.next (lwS (some (I n)) (some (I way)) (some (I (w : Nat))) 0 (bOf w) D (some (S sg)) none))) := by
      by_cases h : n < 0
      · have e : sg = [45] := if_pos h
        rw [e]
        simp [lwS, h]
      · have e : sg = sp := if_neg h
        rw [e]
        simp [lwS, h, f5, q5', okSize, hsps]
    have a1 := add_S (a := sg) (b := pxOf w) WL.1.1
    have a2 := add_S (a := sg ++ pxOf w) (b := D) WL.1.2
    have a3 := add_S (a := P) (b := sg ++ pxOf w ++ D) WL.2.1.1
    have a4 := add_S (a := P ++ (sg ++ pxOf w ++ D)) (b := Z) WL.2.1.2
    have s7 : evS Φ 1000 (.assign 7 (.bin .Add (.bin .Add (.var 6) (.sub (.tup [(.lit (.str ⟨#[]⟩)), (.lit (.str ⟨#[48, 88]⟩)), (.lit (.str ⟨#[48, 111]⟩)), (.lit (.str ⟨#[48, 98]⟩)), (.lit (.str ⟨#[48, 100, 48, 48]⟩))]) (.var 3))) (.var 5))) (lwS (some (I n)) (some (I way)) (some (I (w : Nat))) 0 (bOf w) D (some (S sg)) none) = some (.ok (.next (lwS (some (I n)) (some (I way)) (some (I (w : Nat))) 0 (bOf w) D (some (S sg)) (some (S (sg ++ pxOf w ++ D)))))) := by
      simp only [lwS, s_assign, e_bin, e_var, sget_succ, sget_zero, Option.map_some, view_val, lift_some, eb_ok, e_sub, e_tup, es_cons, e_lit, es_nil, datas_cons, flat_str, if_true, datas_nil, Option.bind_some]
      simp [okSize, hxs, -List.append_assoc]
      rw [a1]
      simp only [lift_some, eb_ok]
      rw [a2]
      simp
    have s8 : evSs Φ 1000 [(.ret (.bin .Add (.bin .Add (.sub (.tup [(.lit (.str ⟨#[]⟩)), (.lit (.str ⟨#[32]⟩)), (.lit (.str ⟨#[10]⟩))]) (.bin .Mod (.bin .FloorDiv (.var 1) (.lit (.int (10)))) (.lit (.int (3))))) (.var 7)) (.sub (.tup [(.lit (.str ⟨#[]⟩)), (.lit (.str ⟨#[9]⟩))]) (.bin .Mod (.bin .FloorDiv (.var 1) (.lit (.int (30)))) (.lit (.int (2)))))))]
        (lwS (some (I n)) (some (I way)) (some (I (w : Nat))) 0 (bOf w) D (some (S sg)) (some (S (sg ++ pxOf w ++ D)))) = some (.ok (.ret (S (P ++ sg ++ (pxOf w ++ D) ++ Z)))) := by
      have e : P ++ (sg ++ pxOf w ++ D) ++ Z = P ++ sg ++ (pxOf w ++ D) ++ Z := by simp
      rw [e] at a4
      generalize hR : P ++ sg ++ (pxOf w ++ D) ++ Z = R at *
      simp only [lwS, ss_cons, s_ret, e_bin, e_var, sget_succ, sget_zero, Option.map_some, view_val, lift_some, eb_ok, e_sub, e_tup, es_cons, e_lit, es_nil, datas_cons, flat_str, if_true, datas_nil, Option.bind_some, f10, f30, q10', q30']
      simp [okSize, hPs, hZs, -List.append_assoc]
      rw [a3]
      simp only [lift_some, eb_ok]
      rw [a4]
      simp
    show fin (evSs _ _ (_ :: _ :: _ :: _ :: (.loop lwT lwB) :: _ :: _ :: _) [some (I n), some (I way), none, none, none, none, none, none]) = _
    rw [ss_cons, s1, sb_next, ss_cons, s2, sb_next, ss_cons, s3, sb_next, ss_cons, s4, sb_next, ss_cons, s5, sb_next, ss_cons, s6, sb_next, ss_cons, s7, sb_next, s8]
    rfl
  · have key : optI (sgn (decide (sg = [45])) (some ((n.natAbs : Nat) : Int))) = I n := by
      by_cases h : n < 0
      · have e : sg = [45] := if_pos h
        rw [e]
        show I (-(n.natAbs : Int)) = I n
        rw [show -(n.natAbs : Int) = n by omega]
      · have e : sg = sp := if_neg h
        have h2 : ¬ sp = [45] := by rcases hsp with h | h <;> rw [h] <;> simp
        rw [e, decide_eq_false h2]
        show I (n.natAbs : Int) = I n
        rw [show (n.natAbs : Int) = n by omega]
    rw [ev_whole d P sg _ Z hP hZ hsg r0 rr o4 o5 ⟨o6, o7⟩ rl o8 o9 (by simp only [List.length_append]; omega) hok, o3, key]
end NP
end
section
open PySem PySem.Calls PyProof.Rows PySem.W PySem.Spec
set_option maxRecDepth 100000
namespace NP

section
variable {Φ : Nat → List TV → Option (Out TV)} {N : Nat} {σ : Store}
noncomputable def fv (acc : Str) (r : List CE) (σ : Store) (Φ : Nat → List TV → Option (Out TV)) : TV → Option (Out Str)
  | .val (.str s) => if acc.length + s.length ≤ strTop then evF Φ (acc ++ s) r σ else none
  | _ => none
theorem f_nil (acc : Str) : evF Φ acc [] σ = some (.ok acc) := rfl
theorem f_cons' (acc : Str) (e : CE) (r : List CE) : evF Φ acc (e :: r) σ = ebind (evE Φ e σ) (fv acc r σ Φ) := rfl
theorem fv_S {a b : List Nat} {r : List CE} (h : a.length + b.length ≤ 1000000) : fv ⟨a.toArray⟩ r σ Φ (S b) = evF Φ ⟨(a ++ b).toArray⟩ r σ := by
  show (if a.toArray.size + b.toArray.size ≤ strTop then evF Φ (⟨a.toArray⟩ ++ ⟨b.toArray⟩) r σ else none) = _
  rw [List.size_toArray, List.size_toArray, if_pos (by unfold strTop; exact h)]
  show evF Φ ⟨a.toArray ++ b.toArray⟩ r σ = _
  rw [List.append_toArray]
noncomputable def dropv (σ : Store) : TV → Option (Out (SO Store))
  | .val .none => some (.ok (.next σ))
  | _ => none
theorem s_drop (e : CE) : evS Φ N (.drop e) σ = ebind (evE Φ e σ) (dropv σ) := rfl
noncomputable def raisev : TV → Option (Out (SO Store))
  | .exc t ec => some (.exc t ec)
  | _ => none
theorem s_raise (e : CE) : evS Φ N (.raise e) σ = ebind (evE Φ e σ) raisev := rfl
theorem s_retNone : evS Φ N .retNone σ = some (.ok (.ret (.val .none))) := rfl
end
theorem err1 (d : Nat) (m : List Nat) : evCall tbl 1000 (d + 1) 0 [S m] = some (.ok (.exc ⟨m.toArray⟩ (.tuple [.str (Str.ofString "NONE")]))) := rfl
theorem err2 (d : Nat) (m : List Nat) {ec : List PyData} (h : flats ec = true) : evCall tbl 1000 (d + 1) 0 [S m, .val (.tuple ec)] = some (.ok (.exc ⟨m.toArray⟩ (.tuple ec))) := by
  rw [ev_err]
  show (if flats ec = true then _ else _) = _
  rw [if_pos h]

theorem ev_textof (d : Nat) (b : Bool) : evCall tbl 1000 (d + 1) 7 [.val (.bool b)] = some (.ok (S (if b = true then [49] else [48]))) := by
  rw [ev_fn (c := f_text_of) rfl (by decide) rfl rfl]
  cases b <;> simp [f_text_of]

noncomputable def cCant : List Nat := [99, 97, 110, 39, 116, 32, 117, 115, 101, 32]
noncomputable def cAs : List Nat := [32, 97, 115, 32, 111, 112, 101, 114, 97, 110, 100, 32, 111, 102, 32, 34]
noncomputable def cNon : List Nat := [110, 111, 110, 45, 110, 117, 109, 101, 114, 105, 99, 32, 115, 116, 114, 105, 110, 103]
noncomputable def cEmpty : List Nat := [101, 109, 112, 116, 121, 32, 115, 116, 114, 105, 110, 103]
noncomputable def cArith : PyData := .str ⟨#[65, 82, 73, 84, 72]⟩
noncomputable def cDomain : PyData := .str ⟨#[68, 79, 77, 65, 73, 78]⟩
noncomputable def shown (t : List Nat) : List Nat := if t = [] then cEmpty else cNon ++ [32, 34] ++ t ++ [34]
noncomputable def whatOf (t : List Nat) : List Nat := if t = [] then cEmpty else cNon
noncomputable def faultMsg (op t : List Nat) : List Nat := cCant ++ shown t ++ cAs ++ op ++ [34]
noncomputable def faultEc (t : List Nat) : List PyData := [cArith, cDomain, .str ⟨(whatOf t).toArray⟩]
theorem sAdd (a b : List Nat) : (⟨a.toArray⟩ : Str) ++ ⟨b.toArray⟩ = ⟨(a ++ b).toArray⟩ := by
  show (⟨a.toArray ++ b.toArray⟩ : Str) = _
  rw [List.append_toArray]
theorem emptyS : Str.empty = (⟨([] : List Nat).toArray⟩ : Str) := rfl

theorem ev_fault (d : Nat) (op t : List Nat) (ho : op.length ≤ 10) (ht : t.length ≤ 1000) : evCall tbl 1000 (d + 2) 17 [S op, S t] = some (.ok (.exc ⟨(faultMsg op t).toArray⟩ (.tuple (faultEc t)))) := by
  rw [ev_fn (c := f_operand_fault) rfl (by decide) rfl rfl]
  have e1 : evF (evCall tbl 1000 (d + 1)) Str.empty [(.lit (.str ⟨#[110, 111, 110, 45, 110, 117, 109, 101, 114, 105, 99, 32, 115, 116, 114, 105, 110, 103, 32, 34]⟩)), (.var 1), (.lit (.str ⟨#[34]⟩))] [some (S op), some (S t), none, none] = some (.ok ⟨(cNon ++ [32, 34] ++ t ++ [34]).toArray⟩) := by
    rw [emptyS, f_cons', e_lit, eb_ok]
    show fv _ _ _ _ (S (cNon ++ [32, 34])) = _
    rw [fv_S (by simp [cNon]), f_cons', e_var]
    show fv _ _ _ _ (S t) = _
    rw [fv_S (by simp [cNon]; omega), f_cons', e_lit, eb_ok]
    show fv _ _ _ _ (S [34]) = _
    rw [fv_S (by simp [cNon]; omega), f_nil]
    rfl
  have e2 : ∀ (w sh : List Nat), sh.length ≤ 1100 → evE (evCall tbl 1000 (d + 1)) (.fstr [(.lit (.str ⟨#[99, 97, 110, 39, 116, 32, 117, 115, 101, 32]⟩)), (.var 3), (.lit (.str ⟨#[32, 97, 115, 32, 111, 112, 101, 114, 97, 110, 100, 32, 111, 102, 32, 34]⟩)), (.var 0), (.lit (.str ⟨#[34]⟩))]) [some (S op), some (S t), some (S w), some (S sh)] = some (.ok (S (cCant ++ sh ++ cAs ++ op ++ [34]))) := by
    intro w sh hsh
    rw [e_fstr, emptyS, f_cons', e_lit, eb_ok]
    show ebind (fv _ _ _ _ (S cCant)) _ = _
    rw [fv_S (by simp [cCant]), f_cons', e_var]
    show ebind (fv _ _ _ _ (S sh)) _ = _
    rw [fv_S (by simp [cCant]; omega), f_cons', e_lit, eb_ok]
    show ebind (fv _ _ _ _ (S cAs)) _ = _
    rw [fv_S (by simp [cCant, cAs]; omega), f_cons', e_var]
    show ebind (fv _ _ _ _ (S op)) _ = _
    rw [fv_S (by simp [cCant, cAs]; omega), f_cons', e_lit, eb_ok]
    show ebind (fv _ _ _ _ (S [34])) _ = _
    rw [fv_S (by simp [cCant, cAs]; omega), f_nil]
    rfl
  have last : ∀ (w sh : List Nat), sh.length ≤ 1100 → fin (evSs (evCall tbl 1000 (d + 1)) 1000 [(.ret (.call 0 [(.fstr [(.lit (.str ⟨#[99, 97, 110, 39, 116, 32, 117, 115, 101, 32]⟩)), (.var 3), (.lit (.str ⟨#[32, 97, 115, 32, 111, 112, 101, 114, 97, 110, 100, 32, 111, 102, 32, 34]⟩)), (.var 0), (.lit (.str ⟨#[34]⟩))]), (.tup [(.lit (.str ⟨#[65, 82, 73, 84, 72]⟩)), (.lit (.str ⟨#[68, 79, 77, 65, 73, 78]⟩)), (.var 2)])]))] [some (S op), some (S t), some (S w), some (S sh)]) =
      some (.ok (.exc ⟨(cCant ++ sh ++ cAs ++ op ++ [34]).toArray⟩ (.tuple [cArith, cDomain, .str ⟨w.toArray⟩]))) := by
    intro w sh hsh
    have h2 := err2 d (cCant ++ sh ++ cAs ++ op ++ [34]) (ec := [cArith, cDomain, .str ⟨w.toArray⟩]) (by rfl)
    rw [ss_cons, s_ret, e_call, es_cons, e2 w sh hsh, eb_ok, es_cons, e_tup, es_cons, e_lit, eb_ok, es_cons, e_lit, eb_ok, es_cons, e_var, es_nil]
    show fin (sbindQ (ebind (evCall tbl 1000 (d + 1)  0 [S (cCant ++ sh ++ cAs ++ op ++ [34]), .val (.tuple [cArith, cDomain, .str ⟨w.toArray⟩])]) _) _) = _
    rw [h2]
    rfl
  have st1 : evS (evCall tbl 1000 (d + 1)) 1000 (.assignT [2, 3] (.tup [(.lit (.str ⟨#[110, 111, 110, 45, 110, 117, 109, 101, 114, 105, 99, 32, 115, 116, 114, 105, 110, 103]⟩)), (.fstr [(.lit (.str ⟨#[110, 111, 110, 45, 110, 117, 109, 101, 114, 105, 99, 32, 115, 116, 114, 105, 110, 103, 32, 34]⟩)), (.var 1), (.lit (.str ⟨#[34]⟩))])])) [some (S op), some (S t), none, none] = some (.ok (.next [some (S op), some (S t), some (S cNon), some (S (cNon ++ [32, 34] ++ t ++ [34]))])) := by
    rw [s_assignT, e_tup, es_cons, e_lit, eb_ok, es_cons, e_fstr, e1]
    rfl
  show fin (evSs _ _ (_ :: _ :: _) [some (S op), some (S t), none, none]) = _
  rw [ss_cons, st1, sb_next, ss_cons]
  by_cases h : t = []
  · subst h
    have st2 : ∀ σ, evS (evCall tbl 1000 (d + 1)) 1000 (.ite (.cmp .Eq (.var 1) (.lit (.str ⟨#[]⟩))) [
        (.assignT [2, 3] (.tup [(.lit (.str ⟨#[101, 109, 112, 116, 121, 32, 115, 116, 114, 105, 110, 103]⟩)), (.lit (.str ⟨#[101, 109, 112, 116, 121, 32, 115, 116, 114, 105, 110, 103]⟩))]))] []) (some (S op) :: some (S []) :: σ) = some (.ok (.next (sset (sset (some (S op) :: some (S []) :: σ) 2 (S cEmpty)) 3 (S cEmpty)))) := fun σ => by
      simp [okSize, cEmpty]
    rw [st2, sb_next]
    exact last cEmpty cEmpty (by simp [cEmpty])
  · have st2 : ∀ σ, evS (evCall tbl 1000 (d + 1)) 1000 (.ite (.cmp .Eq (.var 1) (.lit (.str ⟨#[]⟩))) [
        (.assignT [2, 3] (.tup [(.lit (.str ⟨#[101, 109, 112, 116, 121, 32, 115, 116, 114, 105, 110, 103]⟩)), (.lit (.str ⟨#[101, 109, 112, 116, 121, 32, 115, 116, 114, 105, 110, 103]⟩))]))] []) (some (S op) :: some (S t) :: σ) = some (.ok (.next (some (S op) :: some (S t) :: σ))) := fun σ => by
      have := eq_S t []
      simp [h]
    rw [st2, sb_next]
    have := last cNon (cNon ++ [32, 34] ++ t ++ [34]) (by simp [cNon]; omega)
    unfold faultMsg faultEc shown whatOf
    rw [if_neg h, if_neg h]
    exact this

theorem ev_operand {d : Nat} {op t : List Nat} {o : Option Int} (ho : op.length ≤ 10) (ht : t.length ≤ 1000) (h : evCall tbl 1000 (d + 3) 5 [S t] = some (.ok (optI o))) :
    evCall tbl 1000 (d + 4) 18 [S op, S t] = match o with | some v => some (.ok (I v)) | none => some (.exc ⟨(faultMsg op t).toArray⟩ (.tuple (faultEc t))) := by
  rw [ev_fn (c := f_operand) rfl (by decide) rfl rfl]
  cases o with
  | none =>
    have := ev_fault (d + 1) op t ho ht
    have h : evCall tbl 1000 (d + 3) 5 [S t] = some (.ok (.val .none)) := h
    simp [f_operand, h, this, s_raise, raisev]
  | some v =>
    have h : evCall tbl 1000 (d + 3) 5 [S t] = some (.ok (I v)) := h
    simp [f_operand, h]
end NP
end
section
open PySem PySem.Calls PyProof.Rows PySem.W PySem.Spec
set_option maxRecDepth 100000
namespace NP

noncomputable def strI (v : Int) : Str := Str.ofString (toString v)
noncomputable def goodP (s : Str) : PyData := .tuple [.int 0, .str s, .tuple []]
theorem str_I {v : Int} (h : inTop v = true) : strop (I v) = some (.val (.str (strI v))) := by
  show (if _ then _ else _) = _
  rw [if_pos h]; rfl
theorem ev_goodI (d : Nat) {v : Int} (h : inTop v = true) : evCall tbl 1000 (d + 1) 36 [I v] = some (.ok (.val (goodP (strI v)))) := by
  rw [ev_fn (c := f_law_good) rfl (by decide) rfl rfl]
  simp [f_law_good, str_I h, okSize, goodP]
theorem ev_goodS (d : Nat) (s : Str) : evCall tbl 1000 (d + 1) 36 [.val (.str s)] = some (.ok (.val (goodP s))) := by
  rw [ev_fn (c := f_law_good) rfl (by decide) rfl rfl]
  simp [f_law_good, strop, okSize, goodP]

noncomputable def dueM : Option (Out TV) → Option (Out TV)
  | some (.ok (.val (.int v))) => some (.ok (.val (goodP (strI v))))
  | some (.exc t ec) => some (.ok (.val (.tuple [.int 1, .str t, ec])))
  | _ => none
@[simp] theorem due_I (v : Int) : dueM (some (.ok (.val (.int v)))) = some (.ok (.val (goodP (strI v)))) := rfl
@[simp] theorem due_exc (t : Str) (ec : PyData) : dueM (some (.exc t ec)) = some (.ok (.val (.tuple [.int 1, .str t, ec]))) := rfl

theorem inTop_lit {v : Int} (h : v.natAbs ≤ 2 ^ 200) : inTop v = true := inTop_small h
theorem p28 : binop .Pow (.val (.int 2)) (.val (.int 28)) = some (I 268435456) := pow_I (by decide) (by decide) (inTop_lit (Nat.le_trans (show (2 : Int).natAbs ≤ 2 by decide) (by decide)))
theorem p31 : binop .Pow (.val (.int 2)) (.val (.int 31)) = some (I 2147483648) := pow_I (by decide) (by decide) (inTop_lit (Nat.le_trans (show (2 : Int).natAbs ≤ 2 by decide) (by decide)))
theorem top_of {v : Int} {k : Nat} (h : v.natAbs ≤ 2 ^ k) (hk : k < 1900) : inTop v = true := by
  unfold inTop top
  exact decide_eq_true (Nat.lt_of_le_of_lt h (Nat.pow_lt_pow_right (by decide) hk))
theorem err2' (d : Nat) (m : Str) {ec : List PyData} (h : flats ec = true) : evCall tbl 1000 (d + 1) 0 [.val (.str m), .val (.tuple ec)] = some (.ok (.exc m (.tuple ec))) := err2 d m.cps.toList h
theorem err1' (d : Nat) (m : Str) : evCall tbl 1000 (d + 1) 0 [.val (.str m)] = some (.ok (.exc m (.tuple [.str (Str.ofString "NONE")]))) := rfl
@[simp] theorem raise_exc (t : Str) (ec : PyData) : raisev (.exc t ec) = some (.exc t ec) := rfl
@[simp] theorem drop_none (σ : Store) : dropv σ (.val .none) = some (.ok (.next σ)) := rfl
theorem mod2_I (a : Int) : binop .Mod (I a) (.val (.int 2)) = some (I (a.fmod 2)) := mod_I (by decide)

noncomputable def proP (x : Int) : List PyData → Int → Int
  | [], t => t
  | _ :: r, t => proP x r (t * x)
theorem pro_loop (Φ : Nat → List TV → Option (Out TV)) (x y : Int) (x2 : Option TV) : ∀ (k s : Nat) (t : Int) (x4 : Option TV), (t.natAbs : Nat) ≤ 2 ^ (66 * (25 - k)) → x.natAbs ≤ 2 ^ 66 → k ≤ 25 →
    ∃ x4', forP (fun d σ => evSs Φ 1000 [(.assign 3 (.bin .Mult (.var 3) (.var 0)))] (sset σ 4 (.val d))) ((List.range' s k).map fun (i : Nat) => PyData.int (i : Int)) [some (I x), some (I y), x2, some (I t), x4] = some (.ok (.next [some (I x), some (I y), x2, some (I (t * x ^ k)), x4'])) := by
  intro k
  induction k with
  | zero => intro s t x4 _ _ _; exact ⟨x4, by simp⟩
  | succ k ih =>
    intro s t x4 ht hx hk
    have hx0 : inTop x = true := top_of hx (by decide)
    have ht0 : inTop t = true := top_of (Nat.le_trans ht (Nat.pow_le_pow_right (by decide) (show 66 * (25 - (k + 1)) ≤ 1600 by omega))) (by decide)
    have hm := mul_I ht0 hx0
    obtain ⟨x4', h⟩ := ih (s + 1) (t * x) (some (.val (.int (s : Nat)))) (by
      rw [Int.natAbs_mul]
      calc t.natAbs * x.natAbs ≤ 2 ^ (66 * (25 - (k + 1))) * 2 ^ 66 := Nat.mul_le_mul ht hx
        _ = 2 ^ (66 * (25 - k)) := by rw [← Nat.pow_add]; congr 1; omega) hx (by omega)
    refine ⟨x4', ?_⟩
    rw [List.range'_succ, List.map_cons, for_cons]
    have e : evSs Φ 1000 [(.assign 3 (.bin .Mult (.var 3) (.var 0)))] (sset [some (I x), some (I y), x2, some (I t), x4] 4 (.val (.int (s : Nat)))) = some (.ok (.next [some (I x), some (I y), x2, some (I (t * x)), some (.val (.int (s : Nat)))])) := by
      simp [hm]
    rw [e, sb_next, h, Int.pow_succ', Int.mul_assoc]

noncomputable def AS (r : Option (Out TV)) : Prop := (∃ v, r = some (.ok (I v)) ∧ inTop v = true) ∨ (∃ t ec, r = some (.exc t (.tuple ec)) ∧ PyData.strOk t = true ∧ ec.all isS = true)
theorem AS.ok {v : Int} (h : inTop v = true) : AS (some (.ok (I v))) := .inl ⟨v, rfl, h⟩
theorem AS.err {t : Str} {ec : List PyData} (h : PyData.strOk t = true) (h' : ec.all isS = true) : AS (some (.exc t (.tuple ec))) := .inr ⟨t, ec, rfl, h, h'⟩

noncomputable def goodR (v : Int) : Option (Out TV) := some (.ok (.val (goodP (strI v))))
noncomputable def Both (i j n : Nat) (a l : List TV) : Prop := ∃ r, AS r ∧ ∀ d, evCall tbl 1000 (d + n) i a = r ∧ evCall tbl 1000 (d + n) j l = dueM r
noncomputable def powMsg : Str := ⟨#[101, 120, 112, 111, 110, 101, 110, 116, 105, 97, 116, 105, 111, 110, 32, 111, 102, 32, 122, 101, 114, 111, 32, 98, 121, 32, 110, 101, 103, 97, 116, 105, 118, 101, 32, 112, 111, 119, 101, 114]⟩
noncomputable def powEc : List PyData := [.str ⟨#[65, 82, 73, 84, 72]⟩, .str ⟨#[68, 79, 77, 65, 73, 78]⟩, .str powMsg]
noncomputable def largeMsg : Str := ⟨#[101, 120, 112, 111, 110, 101, 110, 116, 32, 116, 111, 111, 32, 108, 97, 114, 103, 101]⟩
noncomputable abbrev pSt (x y : Int) : Store := [some (I x), some (I y), none]
noncomputable abbrev qSt (x y : Int) : Store := [some (I x), some (I y), none, none, none]
noncomputable abbrev PD (x y : Int) : Prop := Both 21 39 2 [I x, I y] [I x, I y]
theorem PD.of {x y : Int} {r : Option (Out TV)} (hr : AS r) (h1 : ∀ d, fin (evSs (evCall tbl 1000 (d + 1)) 1000 f_power.body (pSt x y)) = r) (h2 : ∀ d, fin (evSs (evCall tbl 1000 (d + 1)) 1000 f_law_power.body (qSt x y)) = dueM r) : PD x y :=
  ⟨r, hr, fun d => ⟨(ev_fn (i := 21) (c := f_power) rfl (by decide) rfl rfl).trans (h1 d), (ev_fn (i := 39) (c := f_law_power) rfl (by decide) rfl rfl).trans (h2 d)⟩⟩
theorem PD.val {x y v : Int} (hT : inTop v = true) (h1 : ∀ Φ, fin (evSs Φ 1000 f_power.body (pSt x y)) = some (.ok (I v))) (h2 : ∀ Φ : Nat → List TV → Option (Out TV), Φ 36 [I v] = goodR v → fin (evSs Φ 1000 f_law_power.body (qSt x y)) = goodR v) : PD x y :=
  .of (AS.ok hT) (fun d => h1 _) fun d => h2 _ (ev_goodI d hT)
section
variable {Φ : Nat → List TV → Option (Out TV)} {x y : Int}
theorem ge28 {σ : Store} (h : sget σ 1 = some (I y)) : evT Φ (.cmp .GtE (.var 1) (.bin .Pow (.lit (.int (2))) (.lit (.int (28))))) σ = some (.ok (decide (268435456 ≤ y))) :=
  k_cmp (u := I y) (w := I 268435456) (by rw [e_var, h]; rfl) (k_bin rfl rfl p28) rfl
theorem k_good {σ : Store} {e : CE} {rest : List CS} {v : Int} (he : evE Φ e σ = some (.ok (I v))) (h : Φ 36 [I v] = goodR v) : fin (evSs Φ 1000 (.ret (.call 36 [e]) :: rest) σ) = goodR v :=
  k_ret (v := .val (goodP (strI v))) (k_call (k_es1 he) h)
theorem p_one (h : ∀ z, z ≠ 0 → y = z → fin (evSs Φ 1000 (f_power.body.drop 1) (pSt x z)) = some (.ok (I 1))) : fin (evSs Φ 1000 f_power.body (pSt x y)) = some (.ok (I 1)) := by
  by_cases hy : y = 0
  · exact k_take (dT hy) (k_ret (v := I 1) rfl)
  · exact k_skip (dF hy) (h y hy rfl)
theorem pw_loop (Φ : Nat → List TV → Option (Out TV)) {k : Nat} (hx : x.natAbs ≤ 2 ^ 66) (hk : k < 25) : ∃ x4, evS Φ 1000 (.for1 4 (.rng (.var 1)) [(.assign 3 (.bin .Mult (.var 3) (.var 0)))]) [some (I x), some (I (k : Int)), none, some (I 1), none] = some (.ok (.next [some (I x), some (I (k : Int)), none, some (I (x ^ k)), x4])) := by
  obtain ⟨x4', hl⟩ := pro_loop Φ x k none k 0 1 none (by simpa using Nat.one_le_two_pow) hx (Nat.le_of_lt hk)
  refine ⟨x4', ?_⟩
  rw [← List.range_eq_range', Int.one_mul] at hl
  have hrng : rngv (I (k : Int)) = some (.ok ((List.range k).map fun (i : Nat) => PyData.int (i : Int))) := by
    show (if _ then _ else _) = _
    rw [if_pos (show (k : Int).natAbs ≤ 1000000 from Nat.le_trans (Nat.le_of_lt hk) (by decide))]
    rfl
  rw [s_for1, it_rng, e_var]
  show ebind (rngv (I (k : Int))) _ = _
  rw [hrng, eb_ok]
  exact hl
theorem q_and (h0 : ¬ x = 0) : evT Φ (.boolop true [(.cmp .Eq (.var 0) (.lit (.int (0)))), (.cmp .Lt (.var 1) (.lit (.int (0))))]) (qSt x y) = some (.ok false) := k_andF (dF h0)
theorem p_rest (h0 : ¬ x = 0) (h1 : ¬ x = 1) (hm : ¬ x = -1) {R : Option (Out TV)} (h : fin (evSs Φ 1000 (f_power.body.drop 4) (pSt x y)) = R) : fin (evSs Φ 1000 (f_power.body.drop 1) (pSt x y)) = R :=
  k_skip (k_andF (dF h0)) (k_skip (k_orF (dF h0) (k_orF (dF h1) rfl)) (k_skip (dF hm) h))
theorem q_rest (h0 : ¬ x = 0) (h1 : ¬ x = 1) (hm : ¬ x = -1) {R : Option (Out TV)} (h : fin (evSs Φ 1000 (f_law_power.body.drop 3) (qSt x y)) = R) : fin (evSs Φ 1000 f_law_power.body (qSt x y)) = R :=
  k_skip (k_andF (dF h0)) (k_skip (k_orF (dF h1) (k_orF (k_andF (dF hm)) rfl)) (k_skip (dF hm) h))
end
theorem pd_zero (y : Int) : PD 0 y := by
  by_cases hn : y < 0
  · have hy : ¬ y = 0 := Int.ne_of_lt hn
    refine .of (r := some (.exc powMsg (.tuple powEc))) (AS.err (by decide +kernel) (by decide +kernel)) (fun d => ?_) fun d => ?_
    · exact k_skip (dF hy) (k_take (k_andT rfl (k_andT (dT hn) rfl)) (k_set (v := .val (.str powMsg)) rfl rfl (k_raise (k_call (vs := [.val (.str powMsg), .val (.tuple powEc)]) (by kernel_rfl) (err2' d powMsg rfl)))))
    · exact k_take (k_andT rfl (k_andT (dT hn) rfl)) (k_set (v := .val (.str powMsg)) rfl rfl (k_ret (v := .val (.tuple [.int 1, .str powMsg, .tuple powEc])) (by kernel_rfl)))
  · by_cases hy : y = 0
    · exact .val (v := 1) (by decide +kernel) (fun Φ => k_take (dT hy) (k_ret (v := I 1) rfl)) fun Φ h => k_skip (k_andT rfl (k_andF (dF hn))) (k_skip rfl (k_skip rfl (k_skip (dF hn) (k_take rfl (k_good (k_ifT (dT hy) rfl) h)))))
    · exact .val (v := 0) (by decide +kernel) (fun Φ => k_skip (dF hy) (k_skip (k_andT rfl (k_andF (dF hn))) (k_take rfl (k_ret (v := I 0) rfl)))) fun Φ h => k_skip (k_andT rfl (k_andF (dF hn))) (k_skip rfl (k_skip rfl (k_skip (dF hn) (k_take rfl (k_good (k_ifF (dF hy) rfl) h)))))
theorem pd_one (y : Int) : PD 1 y :=
  .val (v := 1) (by decide +kernel) (fun Φ => p_one fun z _ _ => k_skip rfl (k_take rfl (k_ret (v := I 1) rfl))) fun Φ h => k_skip rfl (k_take rfl (k_good rfl h))
theorem pd_neg (y : Int) : PD (-1) y := by
  by_cases hm : y.fmod 2 = 0
  · exact .val (v := 1) (by decide +kernel) (fun Φ => p_one fun z _ e => k_skip rfl (k_skip rfl (k_take rfl (k_ret (v := I 1) (k_ifT (dT (e ▸ hm)) rfl))))) fun Φ h => k_skip rfl (k_take (k_orF rfl (k_orT (k_andT rfl (k_andT (dT hm) rfl)))) (k_good rfl h))
  · have hy : ¬ y = 0 := fun e => hm (by rw [e]; rfl)
    exact .val (v := -1) (by decide +kernel) (fun Φ => k_skip (dF hy) (k_skip rfl (k_skip rfl (k_take rfl (k_ret (v := I (-1)) (k_ifF (dF hm) rfl)))))) fun Φ h => k_skip rfl (k_skip (k_orF rfl (k_orF (k_andT rfl (k_andF (dF hm))) rfl)) (k_take rfl (k_good rfl h)))
theorem pd_rest {x y : Int} (h0 : ¬ x = 0) (h1 : ¬ x = 1) (hm : ¬ x = -1) (hx : x.natAbs ≤ 2 ^ 66) (hy : y < 25 ∨ 268435456 ≤ y) : PD x y := by
  by_cases hn : y < 0
  · exact .val (v := 0) (by decide +kernel) (fun Φ => k_skip (dF (Int.ne_of_lt hn)) (p_rest h0 h1 hm (k_take (dT hn) (k_ret (v := I 0) rfl)))) fun Φ h => q_rest h0 h1 hm (k_take (dT hn) (k_good rfl h))
  · by_cases hb : 268435456 ≤ y
    · have hy0 : ¬ y = 0 := fun e => by rw [e] at hb; exact absurd hb (by decide)
      refine .of (r := some (.exc largeMsg (.tuple [.str (Str.ofString "NONE")]))) (AS.err (by decide +kernel) (by decide +kernel)) (fun d => ?_) fun d => ?_
      · exact k_skip (dF hy0) (p_rest h0 h1 hm (k_skip (dF hn) (k_take ((ge28 rfl).trans (dT hb)) (k_raise (k_call (vs := [.val (.str largeMsg)]) rfl (err1' d largeMsg))))))
      · exact q_rest h0 h1 hm (k_skip (dF hn) (k_skip (dF h0) (k_take ((ge28 rfl).trans (dT hb)) (k_ret (v := .val (.tuple [.int 1, .str largeMsg, .tuple [.str (Str.ofString "NONE")]])) (by kernel_rfl)))))
    · obtain ⟨k, rfl⟩ : ∃ k : Nat, y = (k : Int) := ⟨y.toNat, by omega⟩
      have hk : k < 25 := by omega
      have hT : inTop (x ^ k) = true := by
        refine top_of (k := 66 * 25) ?_ (by decide)
        rw [Int.natAbs_pow]
        calc x.natAbs ^ k ≤ (2 ^ 66) ^ k := Nat.pow_le_pow_left hx k
          _ = 2 ^ (66 * k) := by rw [← Nat.pow_mul]
          _ ≤ 2 ^ (66 * 25) := Nat.pow_le_pow_right (by decide) (Nat.mul_le_mul_left _ (Nat.le_of_lt hk))
      refine .val (v := x ^ k) hT (fun Φ => ?_) fun Φ h => ?_
      · by_cases hy0 : (k : Int) = 0
        · have : k = 0 := Int.ofNat_eq_zero.mp hy0
          subst this
          rw [Int.pow_zero]
          exact k_take rfl (k_ret (v := I 1) rfl)
        · have hpw : binop .Pow (I x) (I (k : Int)) = some (I (x ^ k)) := pow_I (a := x) (n := (k : Int)) (Int.natCast_nonneg k) (Int.le_of_lt (Int.lt_of_lt_of_le (Int.ofNat_lt.mpr hk) (by decide))) (top_of hx (by decide))
          exact k_skip (dF hy0) (p_rest h0 h1 hm (k_skip (dF hn) (k_skip ((ge28 rfl).trans (dF hb)) (k_ret (v := I (x ^ k)) (k_bin rfl rfl hpw)))))
      · obtain ⟨x4, hl⟩ := pw_loop Φ hx hk
        exact q_rest h0 h1 hm (k_skip (dF hn) (k_skip (dF h0) (k_skip ((ge28 rfl).trans (dF hb)) (k_set (v := I 1) rfl rfl (k_do hl (k_good rfl h))))))
theorem pow_both {x y : Int} (hx : x.natAbs ≤ 2 ^ 66) (hy : y < 25 ∨ 268435456 ≤ y) : PD x y := by
  by_cases h0 : x = 0
  · exact h0 ▸ pd_zero y
  · by_cases h1 : x = 1
    · exact h1 ▸ pd_one y
    · by_cases hm : x = -1
      · exact hm ▸ pd_neg y
      · exact pd_rest h0 h1 hm hx hy

theorem lt_pow_nat {x : Int} : ∀ {k : Nat}, x.natAbs < 2 ^ (k + 1) → (x.fdiv 2).natAbs < 2 ^ k ∨ (x.fdiv 2).natAbs ≤ 2 ^ k := fun {k} h => by
  right
  have e : x.fdiv 2 = x / 2 := Int.fdiv_eq_ediv_of_nonneg _ (by decide)
  rw [e, Nat.pow_succ] at *
  omega
theorem shl_I {a n : Int} (h0 : 0 ≤ n) (h1 : n ≤ 100) (ha : inTop a = true) : binop .LShift (I a) (I n) = some (I (a * 2 ^ n.toNat)) := by
  show (if _ then _ else _) = _
  rw [if_pos ⟨h0, h1, ha⟩]
theorem shr_I {a n : Int} (h0 : 0 ≤ n) : binop .RShift (I a) (I n) = some (I (a.fdiv (2 ^ n.toNat))) := by
  show (if _ then _ else _) = _
  rw [if_pos h0]
theorem t2 : inTop 2 = true := by decide +kernel
theorem div2_I (a : Int) : binop .FloorDiv (I a) (.val (.int 2)) = some (I (a.fdiv 2)) := div_I (by decide) t2
theorem mulL2_I {a : Int} (h : inTop a = true) : binop .Mult (.val (.int 2)) (I a) = some (I (2 * a)) := mul_I t2 h
theorem notin_01 (x : Int) : cmpop .NotIn (I x) (.val (.tuple [.int 0, .int (-1)])) = some (!(decide (x = 0) || decide (x = -1))) := by
  rw [notin_tI (by rfl), anyEq_I, anyEq_I, anyEq_nil, Bool.or_false]

noncomputable def shT : CE := .boolop true [(.cmp .Gt (.var 2) (.lit (.int (0)))), (.boolop false [(.cmp .Eq (.var 0) (.lit (.str ⟨#[60, 60]⟩))), (.cmp .NotIn (.var 1) (.tup [(.lit (.int (0))), (.neg (.lit (.int (1))))]))])]
noncomputable def shB : List CS := [
    (.assign 1 (.ife (.cmp .Eq (.var 0) (.lit (.str ⟨#[60, 60]⟩))) (.bin .Mult (.lit (.int (2))) (.var 1)) (.bin .FloorDiv (.var 1) (.lit (.int (2)))))),
    (.assign 2 (.bin .Sub (.var 2) (.lit (.int (1)))))]
theorem shl_loop (Φ : Nat → List TV → Option (Out TV)) (x3 : Option TV) : ∀ (k j : Nat) (x : Int), x.natAbs ≤ 2 ^ (200 - k) → k ≤ 100 →
    loopP (evT Φ shT) (evSs Φ 1000 shB) (k + 1 + j) [some (S [60, 60]), some (I x), some (I (k : Int)), x3] = some (.ok (.next [some (S [60, 60]), some (I (x * 2 ^ k)), some (I 0), x3])) := by
  intro k
  induction k with
  | zero =>
    intro j x _ _
    rw [show 0 + 1 + j = j + 1 by omega, loop_succ]
    simp [shT]
  | succ k ih =>
    intro j x hx hk
    have hT : inTop x = true := top_of (Nat.le_trans hx (Nat.pow_le_pow_right (by decide) (by omega))) (show 200 < 1900 by decide)
    rw [show k + 1 + 1 + j = (k + 1 + j) + 1 by omega, loop_succ]
    have t : evT Φ shT [some (S [60, 60]), some (I x), some (I ((k + 1 : Nat) : Int)), x3] = some (.ok true) := by
      have : (0 : Int) < (k : Int) + 1 := by omega
      simp [shT, this]
    have b : evSs Φ 1000 shB [some (S [60, 60]), some (I x), some (I ((k + 1 : Nat) : Int)), x3] = some (.ok (.next [some (S [60, 60]), some (I (2 * x)), some (I (k : Int)), x3])) := by
      have : ((k + 1 : Nat) : Int) - 1 = k := by omega
      simp [shB, mulL2_I hT, Int.add_sub_cancel]
    rw [t, eb_ok, if_pos rfl, b, sb_next, ih j (2 * x) ?_ (by omega)]
    · rw [Int.pow_succ, Int.mul_comm 2 x, Int.mul_assoc, Int.mul_comm (2 ^ k) 2]
    · rw [Int.natAbs_mul]
      calc 2 * x.natAbs ≤ 2 * 2 ^ (200 - (k + 1)) := Nat.mul_le_mul_left _ hx
        _ = 2 ^ (200 - k) := by rw [← Nat.pow_succ']; congr 1; omega
noncomputable def halve : Nat → Int → Int
  | 0, x => x
  | n + 1, x => halve n (x.fdiv 2)
theorem halve_fix (n : Nat) : halve n 0 = 0 ∧ halve n (-1) = -1 := by
  induction n with
  | zero => exact ⟨rfl, rfl⟩
  | succ n ih => exact ⟨ih.1, ih.2⟩
theorem halve_eq (n : Nat) : ∀ x : Int, halve n x = x.fdiv (2 ^ n) := by
  induction n with
  | zero => intro x; show x = x.fdiv 1; simp
  | succ n ih =>
    intro x
    show halve n (x.fdiv 2) = _
    have h2 : (0 : Int) ≤ 2 ^ n := by exact Int.le_of_lt (Int.pow_pos (by decide))
    have h3 : (0 : Int) ≤ 2 ^ (n + 1) := by exact Int.le_of_lt (Int.pow_pos (by decide))
    rw [ih, Int.fdiv_eq_ediv_of_nonneg _ (show (0 : Int) ≤ 2 by decide), Int.fdiv_eq_ediv_of_nonneg _ h2, Int.fdiv_eq_ediv_of_nonneg _ h3, Int.ediv_ediv_of_nonneg (by decide), Int.pow_succ, Int.mul_comm]
theorem shr_loop (Φ : Nat → List TV → Option (Out TV)) (x3 : Option TV) : ∀ (m j : Nat) (x : Int) (n : Nat), (0 ≤ x → x < 2 ^ m) → (x < 0 → -(2 ^ m) ≤ x) →
    ∃ y, loopP (evT Φ shT) (evSs Φ 1000 shB) (m + 1 + j) [some (S [62, 62]), some (I x), some (I (n : Int)), x3] = some (.ok (.next [some (S [62, 62]), some (I (halve n x)), some (I y), x3])) := by
  intro m
  induction m with
  | zero =>
    intro j x n h1 h2
    have hx : x = 0 ∨ x = -1 := by
      have e : (2 : Int) ^ 0 = 1 := rfl
      rw [e] at h1 h2
      omega
    refine ⟨n, ?_⟩
    rw [show 0 + 1 + j = j + 1 by omega, loop_succ]
    rcases hx with rfl | rfl
    · rw [(halve_fix n).1]
      by_cases h : 0 < n <;> simp [shT, notin_01, okSize, h]
    · rw [(halve_fix n).2]
      by_cases h : 0 < n <;> simp [shT, notin_01, okSize, h]
  | succ m ih =>
    intro j x n h1 h2
    cases n with
    | zero =>
      refine ⟨0, ?_⟩
      rw [show m + 1 + 1 + j = (m + 1 + j) + 1 by omega, loop_succ]
      simp [shT, halve]
    | succ n =>
      rw [show m + 1 + 1 + j = (m + 1 + j) + 1 by omega]
      by_cases hx : x = 0 ∨ x = -1
      · refine ⟨(n + 1 : Nat), ?_⟩
        rw [loop_succ]
        have : (0 : Int) < (n : Int) + 1 := by omega
        rcases hx with rfl | rfl
        · rw [(halve_fix _).1]
          simp [shT, notin_01, okSize, this]
        · rw [(halve_fix _).2]
          simp [shT, notin_01, okSize, this]
      · have hx0 : ¬ x = 0 := fun q => hx (.inl q)
        have hxm : ¬ x = -1 := fun q => hx (.inr q)
        have e2 : x.fdiv 2 = x / 2 := Int.fdiv_eq_ediv_of_nonneg _ (by decide)
        have hp : (2 : Int) ^ (m + 1) = 2 ^ m * 2 := Int.pow_succ 2 m
        obtain ⟨y, hy⟩ := ih j (x.fdiv 2) n (by rw [e2]; rw [hp] at h1; intro q; have := h1 (by omega); omega) (by rw [e2]; rw [hp] at h2; intro q; have := h2 (by omega); omega)
        refine ⟨y, ?_⟩
        rw [loop_succ]
        have t : evT Φ shT [some (S [62, 62]), some (I x), some (I ((n + 1 : Nat) : Int)), x3] = some (.ok true) := by
          have : (0 : Int) < (n : Int) + 1 := by omega
          simp [shT, this, notin_01, okSize, hx0, hxm]
        have b : evSs Φ 1000 shB [some (S [62, 62]), some (I x), some (I ((n + 1 : Nat) : Int)), x3] = some (.ok (.next [some (S [62, 62]), some (I (x.fdiv 2)), some (I (n : Int)), x3])) := by
          simp [shB, div2_I, Int.add_sub_cancel]
        rw [t, eb_ok, if_pos rfl, b, sb_next]
        exact hy
end NP
end
section
open PySem PySem.Calls PyProof.Rows PySem.W PySem.Spec
set_option maxRecDepth 100000
namespace NP

theorem ev_count0 (d : Nat) (y : Int) (h : ¬ y < 0) : evCall tbl 1000 (d + 1) 22 [I y] = some (.ok (.val .none)) := by
  rw [ev_fn (i := 22) (c := f_need_count) rfl (by decide) rfl rfl]
  exact k_skip (dF h) rfl
theorem ev_div0 (d : Nat) (y : Int) (h : ¬ y = 0) : evCall tbl 1000 (d + 1) 20 [I y] = some (.ok (.val .none)) := by
  rw [ev_fn (i := 20) (c := f_need_divisor) rfl (by decide) rfl rfl]
  exact k_skip (dF h) rfl

noncomputable def cntMsg : Str := ⟨#[110, 101, 103, 97, 116, 105, 118, 101, 32, 115, 104, 105, 102, 116, 32, 97, 114, 103, 117, 109, 101, 110, 116]⟩
noncomputable def cntEc : List PyData := [.str ⟨#[65, 82, 73, 84, 72]⟩, .str ⟨#[68, 79, 77, 65, 73, 78]⟩, .str ⟨#[100, 111, 109, 97, 105, 110, 32, 101, 114, 114, 111, 114, 58, 32, 97, 114, 103, 117, 109, 101, 110, 116, 32, 110, 111, 116, 32, 105, 110, 32, 118, 97, 108, 105, 100, 32, 114, 97, 110, 103, 101]⟩]
theorem ev_countN (d : Nat) (y : Int) (hn : y < 0) : evCall tbl 1000 (d + 2) 22 [I y] = some (.exc cntMsg (.tuple cntEc)) :=
  (ev_fn (i := 22) (c := f_need_count) rfl (by decide) rfl rfl).trans (k_take (dT hn) (k_raise (k_call (vs := [.val (.str cntMsg), .val (.tuple cntEc)]) (by kernel_rfl) (err2' d cntMsg rfl))))
noncomputable def bigMsg : Str := ⟨#[105, 110, 116, 101, 103, 101, 114, 32, 118, 97, 108, 117, 101, 32, 116, 111, 111, 32, 108, 97, 114, 103, 101, 32, 116, 111, 32, 114, 101, 112, 114, 101, 115, 101, 110, 116]⟩
noncomputable def bigEc : List PyData := [.str ⟨#[65, 82, 73, 84, 72]⟩, .str ⟨#[73, 79, 86, 69, 82, 70, 76, 79, 87]⟩, .str bigMsg]
theorem fdiv_small {x : Int} {n : Nat} (hx : x.natAbs ≤ 2 ^ 66) (hn : 67 ≤ n) : x.fdiv (2 ^ n) = if x < 0 then -1 else 0 := by
  have h3 : (0 : Int) < 2 ^ n := Int.pow_pos (by decide)
  rw [Int.fdiv_eq_ediv_of_nonneg _ (Int.le_of_lt h3)]
  have h4 : (2 : Nat) ^ 66 < 2 ^ n := Nat.pow_lt_pow_right (by decide) (by omega)
  have h5 : ((2 ^ n : Nat) : Int) = (2 : Int) ^ n := by push_cast; rfl
  have h6 : (x.natAbs : Int) < 2 ^ n := by rw [← h5]; exact Int.ofNat_lt.mpr (Nat.lt_of_le_of_lt hx h4)
  by_cases h : x < 0
  · rw [if_pos h]
    refine ((Int.ediv_emod_unique (r := x + 2 ^ n) h3).mpr ⟨by omega, by omega, by omega⟩).1
  · rw [if_neg h]
    exact Int.ediv_eq_zero_of_lt (by omega) (by omega)
noncomputable abbrev zSt (op : List Nat) (x y : Int) : Store := [some (S op), some (I x), some (I y), none]
section
variable {Φ : Nat → List TV → Option (Out TV)} {x y : Int}
theorem ge31 {σ : Store} {i : Nat} (h : sget σ i = some (I y)) : evT Φ (.cmp .GtE (.var i) (.bin .Pow (.lit (.int (2))) (.lit (.int (31))))) σ = some (.ok (decide (2147483648 ≤ y))) :=
  k_cmp (u := I y) (w := I 2147483648) (by rw [e_var, h]; rfl) (k_bin rfl rfl p31) rfl
theorem sh_neg {op : List Nat} (hn : y < 0) : fin (evSs Φ 1000 f_law_shift.body (zSt op x y)) = some (.ok (.val (.tuple [.int 1, .str cntMsg, .tuple cntEc]))) :=
  k_take (dT hn) (k_ret (v := .val (.tuple [.int 1, .str cntMsg, .tuple cntEc])) (by kernel_rfl))
theorem sh_zero {op : List Nat} (hn : ¬ y < 0) (h : Φ 36 [I 0] = goodR 0) : fin (evSs Φ 1000 f_law_shift.body (zSt op 0 y)) = goodR 0 := k_skip (dF hn) (k_take rfl (k_good rfl h))
end
theorem shl_of {x y : Int} {r : Option (Out TV)} (hr : AS r) (h1 : ∀ d, fin (evSs (evCall tbl 1000 (d + 2)) 1000 f_shifted_left.body [some (I x), some (I y), none]) = r) (h2 : ∀ d, fin (evSs (evCall tbl 1000 (d + 2)) 1000 f_law_shift.body (zSt [60, 60] x y)) = dueM r) : Both 23 40 3 [I x, I y] [S [60, 60], I x, I y] :=
  ⟨r, hr, fun d => ⟨(ev_fn (i := 23) (c := f_shifted_left) rfl (by decide) rfl rfl).trans (h1 d), (ev_fn (i := 40) (c := f_law_shift) rfl (by decide) rfl rfl).trans (h2 d)⟩⟩
theorem shr_of {x y : Int} {r : Option (Out TV)} (hr : AS r) (h1 : ∀ d, fin (evSs (evCall tbl 1000 (d + 2)) 1000 f_shifted_right.body [some (I x), some (I y)]) = r) (h2 : ∀ d, fin (evSs (evCall tbl 1000 (d + 2)) 1000 f_law_shift.body (zSt [62, 62] x y)) = dueM r) : Both 24 40 3 [I x, I y] [S [62, 62], I x, I y] :=
  ⟨r, hr, fun d => ⟨(ev_fn (i := 24) (c := f_shifted_right) rfl (by decide) rfl rfl).trans (h1 d), (ev_fn (i := 40) (c := f_law_shift) rfl (by decide) rfl rfl).trans (h2 d)⟩⟩
theorem AS.cnt : AS (some (.exc cntMsg (.tuple cntEc))) := AS.err (by decide +kernel) (by decide +kernel)
theorem shl_both {x y : Int} (hx : x.natAbs ≤ 2 ^ 66) (hy : y ≤ 70 ∨ 2147483648 ≤ y) : Both 23 40 3 [I x, I y] [S [60, 60], I x, I y] := by
  by_cases hn : y < 0
  · exact shl_of AS.cnt (fun d => k_dropX (k_call (vs := [I y]) rfl (ev_countN d y hn))) fun d => sh_neg hn
  · have c := fun {d} {σ : Store} (h : sget σ 1 = some (I y)) => k_call (Φ := evCall tbl 1000 (d + 2)) (σ := σ) (es := [.var 1]) (k_es1 (by rw [e_var, h]; rfl)) (ev_count0 (d + 1) y hn)
    by_cases h0 : x = 0
    · subst h0
      exact shl_of (r := some (.ok (I 0))) (AS.ok (by decide +kernel)) (fun d => k_drop (c rfl) (k_take rfl (k_ret (v := I 0) rfl))) fun d => sh_zero hn (ev_goodI (d + 1) (by decide +kernel))
    · by_cases hb : 2147483648 ≤ y
      · exact shl_of (r := some (.exc bigMsg (.tuple bigEc))) (AS.err (by decide +kernel) (by decide +kernel))
          (fun d => k_drop (c rfl) (k_skip (dF h0) (k_take ((ge31 rfl).trans (dT hb)) (k_set (v := .val (.str bigMsg)) rfl rfl (k_raise (k_call (vs := [.val (.str bigMsg), .val (.tuple bigEc)]) (by kernel_rfl) (err2' (d + 1) bigMsg rfl)))))))
          fun d => k_skip (dF hn) (k_skip (dF h0) (k_take (k_andT rfl (k_andT ((ge31 rfl).trans (dT hb)) rfl)) (k_set (v := .val (.str bigMsg)) rfl rfl (k_ret (v := .val (.tuple [.int 1, .str bigMsg, .tuple bigEc])) (by kernel_rfl)))))
      · obtain ⟨k, rfl⟩ : ∃ k : Nat, y = (k : Int) := ⟨y.toNat, by omega⟩
        have hk : k ≤ 70 := by omega
        have hT : inTop (x * 2 ^ k) = true := by
          refine top_of (k := 66 + 70) ?_ (by decide)
          rw [Int.natAbs_mul, Int.natAbs_pow, Nat.pow_add]
          exact Nat.mul_le_mul hx (Nat.pow_le_pow_right (by decide) hk)
        have hs : binop .LShift (I x) (I (k : Int)) = some (I (x * 2 ^ k)) := shl_I (a := x) (n := (k : Int)) (by omega) (by omega) (top_of hx (by decide))
        refine shl_of (r := some (.ok (I (x * 2 ^ k)))) (AS.ok hT) (fun d => k_drop (c rfl) (k_skip (dF h0) (k_skip ((ge31 rfl).trans (dF hb)) (k_ret (v := I (x * 2 ^ k)) (k_bin rfl rfl hs))))) fun d => ?_
        have hl := shl_loop (evCall tbl 1000 (d + 2)) none k (1000 - (k + 1)) x (Nat.le_trans hx (Nat.pow_le_pow_right (by decide) (by omega))) (by omega)
        rw [show k + 1 + (1000 - (k + 1)) = 1000 by omega] at hl
        exact k_skip (dF hn) (k_skip (dF h0) (k_skip (k_andT rfl (k_andF ((ge31 rfl).trans (dF hb)))) (k_do ((s_loop shT shB).trans hl) (k_good rfl (ev_goodI (d + 1) hT)))))
theorem shr_both {x y : Int} (hx : x.natAbs ≤ 2 ^ 66) : Both 24 40 3 [I x, I y] [S [62, 62], I x, I y] := by
  by_cases hn : y < 0
  · exact shr_of AS.cnt (fun d => k_dropX (k_call (vs := [I y]) rfl (ev_countN d y hn))) fun d => sh_neg hn
  · have c := fun {d} {σ : Store} (h : sget σ 1 = some (I y)) => k_call (Φ := evCall tbl 1000 (d + 2)) (σ := σ) (es := [.var 1]) (k_es1 (by rw [e_var, h]; rfl)) (ev_count0 (d + 1) y hn)
    obtain ⟨k, rfl⟩ : ∃ k : Nat, y = (k : Int) := ⟨y.toNat, by omega⟩
    have hT : inTop (x.fdiv (2 ^ k)) = true := by
      refine top_of (k := 66) (Nat.le_trans ?_ hx) (by decide)
      have h3 : (0 : Int) < 2 ^ k := Int.pow_pos (by decide)
      rw [Int.fdiv_eq_ediv_of_nonneg _ (Int.le_of_lt h3)]
      exact Int.natAbs_ediv_le_natAbs x _
    refine shr_of (r := some (.ok (I (x.fdiv (2 ^ k))))) (AS.ok hT) (fun d => k_drop (c rfl) ?_) fun d => ?_
    · by_cases hb : 2147483648 ≤ (k : Int)
      · rw [fdiv_small hx (by omega)]
        by_cases h0 : x < 0
        · rw [if_pos h0]; exact k_take ((ge31 rfl).trans (dT hb)) (k_ret (v := I (-1)) (k_ifT (dT h0) rfl))
        · rw [if_neg h0]; exact k_take ((ge31 rfl).trans (dT hb)) (k_ret (v := I 0) (k_ifF (dF h0) rfl))
      · have hs : binop .RShift (I x) (I (k : Int)) = some (I (x.fdiv (2 ^ k))) := shr_I (a := x) (n := (k : Int)) (by omega)
        exact k_skip ((ge31 rfl).trans (dF hb)) (k_ret (v := I (x.fdiv (2 ^ k))) (k_bin rfl rfl hs))
    · by_cases h0 : x = 0
      · subst h0
        rw [show (0 : Int).fdiv (2 ^ k) = 0 from Int.zero_fdiv _]
        exact sh_zero hn (ev_goodI (d + 1) (by decide +kernel))
      · obtain ⟨y', hl⟩ := shr_loop (evCall tbl 1000 (d + 2)) none 67 932 x k (fun _ => by omega) (fun _ => by omega)
        rw [halve_eq] at hl
        exact k_skip (dF hn) (k_skip (dF h0) (k_skip (k_andF rfl) (k_do ((s_loop shT shB).trans hl) (k_good rfl (ev_goodI (d + 1) hT)))))
end NP
end
section
open PySem PySem.Calls PyProof.Rows PySem.W PySem.Spec
set_option maxRecDepth 100000
namespace NP

section
variable {Φ : Nat → List TV → Option (Out TV)} {N : Nat} {σ : Store}
noncomputable def appv (σ : Store) (i : Nat) (xs : List PyData) : TV → Option (Out (SO Store))
  | .val d => if flat d && okSize xs.length then some (.ok (.next (sset σ i (.own (xs ++ [d]))))) else none
  | _ => none
theorem s_append {i : Nat} {e : CE} {xs : List PyData} (h : sget σ i = some (.own xs)) : evS Φ N (.append i e) σ = ebind (evE Φ e σ) (appv σ i xs) := by
  rw [r_append, h]; rfl
theorem appv_val {i : Nat} {xs : List PyData} {d : PyData} (hf : flat d = true) (hl : xs.length ≤ 1000) : appv σ i xs (.val d) = some (.ok (.next (sset σ i (.own (xs ++ [d]))))) := by
  show (if _ then _ else _) = _
  rw [hf, show okSize xs.length = true from decide_eq_true hl]
  rfl
end
@[simp] theorem view_own (xs : List PyData) : view (.own xs) = .val (.list xs) := rfl
theorem len_L {xs : List PyData} (h : xs.length ≤ 1000000) : lenop (.val (.list xs)) = some (I xs.length) := by
  show (if _ then _ else _) = _
  rw [if_pos (by unfold strTop; exact h)]
theorem sub_L {xs : List PyData} {k : Nat} {d : PyData} (h : xs[k]? = some d) (hl : xs.length ≤ 1000) : subop (.val (.list xs)) (I (k : Nat)) = some (.val d) := by
  show (if _ then _ else _) = _
  rw [if_pos ⟨Int.natCast_nonneg k, hl⟩]
  show (xs[k]?).map TV.val = _
  rw [h]; rfl

noncomputable def qP (b k : Nat) : List PyData := (List.range (k + 1)).map fun i => .int ((2 ^ i * b : Nat) : Int)
theorem qP_len (b k : Nat) : (qP b k).length = k + 1 := by simp [qP]
theorem qP_get {b k i : Nat} (h : i ≤ k) : (qP b k)[i]? = some (.int ((2 ^ i * b : Nat) : Int)) := by
  unfold qP
  rw [List.getElem?_map, List.getElem?_range (by omega)]
  rfl
theorem qP_succ (b k : Nat) : qP b (k + 1) = qP b k ++ [.int ((2 ^ (k + 1) * b : Nat) : Int)] := by
  unfold qP
  rw [List.range_succ, List.map_append]
  rfl

noncomputable def quT : CE := .cmp .LtE (.sub (.var 2) (.bin .Sub (.len (.var 2)) (.lit (.int (1))))) (.abs (.var 0))
noncomputable def quB : List CS := [(.append 2 (.bin .Mult (.lit (.int (2))) (.sub (.var 2) (.bin .Sub (.len (.var 2)) (.lit (.int (1)))))))]
theorem qu_grow (Φ : Nat → List TV → Option (Out TV)) (x y : Int) (b : Nat) (hb : b ≤ 2 ^ 70) (x3 x4 x5 : Option TV) : ∀ (n k j : Nat), x.natAbs < 2 ^ (k + n) * b → k + n ≤ 200 →
    ∃ m, m ≤ k + n ∧ x.natAbs < 2 ^ m * b ∧ loopP (evT Φ quT) (evSs Φ 1000 quB) (n + 1 + j) [some (I x), some (I y), some (.own (qP b k)), x3, x4, x5] = some (.ok (.next [some (I x), some (I y), some (.own (qP b m)), x3, x4, x5])) := by
  intro n
  induction n with
  | zero =>
    intro k j h hk
    refine ⟨k, Nat.le_refl _, h, ?_⟩
    have h1 := sub_L (qP_get (b := b) (Nat.le_refl k)) (by rw [qP_len]; omega)
    have h2 := len_L (xs := qP b k) (by rw [qP_len]; omega)
    have h3 : ((qP b k).length : Int) - 1 = (k : Int) := by rw [qP_len]; omega
    have hlt : ¬ (((2 ^ k * b : Nat) : Int) ≤ (x.natAbs : Int)) := by have : x.natAbs < 2 ^ k * b := h; omega
    rw [show 0 + 1 + j = j + 1 by omega, loop_succ]
    have t : evT Φ quT [some (I x), some (I y), some (.own (qP b k)), x3, x4, x5] = some (.ok false) := by
      unfold quT
      simp only [t_cmp, e_sub, e_var, sget_succ, sget_zero, Option.map_some, view_own, lift_some, eb_ok, e_bin, e_len, h2, e_lit, sub_I, h3, h1, e_abs, view_val, abs_I, le_I, hlt, decide_false]
    rw [t]; rfl
  | succ n ih =>
    intro k j h hk
    have h1 := sub_L (qP_get (b := b) (Nat.le_refl k)) (by rw [qP_len]; omega)
    have h2 := len_L (xs := qP b k) (by rw [qP_len]; omega)
    have h3 : ((qP b k).length : Int) - 1 = (k : Int) := by rw [qP_len]; omega
    rw [show n + 1 + 1 + j = (n + 1 + j) + 1 by omega, loop_succ]
    by_cases hc : x.natAbs < 2 ^ k * b
    · refine ⟨k, by omega, hc, ?_⟩
      have hlt : ¬ (((2 ^ k * b : Nat) : Int) ≤ (x.natAbs : Int)) := by omega
      have t : evT Φ quT [some (I x), some (I y), some (.own (qP b k)), x3, x4, x5] = some (.ok false) := by
        unfold quT
        simp only [t_cmp, e_sub, e_var, sget_succ, sget_zero, Option.map_some, view_own, lift_some, eb_ok, e_bin, e_len, h2, e_lit, sub_I, h3, h1, e_abs, view_val, abs_I, le_I, hlt, decide_false]
      rw [t]; rfl
    · have hle : ((2 ^ k * b : Nat) : Int) ≤ (x.natAbs : Int) := by omega
      have t : evT Φ quT [some (I x), some (I y), some (.own (qP b k)), x3, x4, x5] = some (.ok true) := by
        unfold quT
        simp only [t_cmp, e_sub, e_var, sget_succ, sget_zero, Option.map_some, view_own, lift_some, eb_ok, e_bin, e_len, h2, e_lit, sub_I, h3, h1, e_abs, view_val, abs_I, le_I, hle, decide_true]
      have hT : inTop ((2 ^ k * b : Nat) : Int) = true := by
        refine top_of (k := 200 + 70) ?_ (by decide)
        rw [Int.natAbs_natCast, Nat.pow_add]
        exact Nat.mul_le_mul (Nat.pow_le_pow_right (by decide) (by omega)) hb
      have hm := mulL2_I hT
      have e2 : (2 : Int) * ((2 ^ k * b : Nat) : Int) = ((2 ^ (k + 1) * b : Nat) : Int) := by
        rw [Nat.pow_succ, Nat.mul_comm (2 ^ k) 2, Nat.mul_assoc]; push_cast; rfl
      have bd : evSs Φ 1000 quB [some (I x), some (I y), some (.own (qP b k)), x3, x4, x5] = some (.ok (.next [some (I x), some (I y), some (.own (qP b (k + 1))), x3, x4, x5])) := by
        unfold quB
        rw [ss_cons, s_append (xs := qP b k) rfl]
        simp only [e_bin, e_lit, eb_ok, e_sub, e_var, sget_succ, sget_zero, Option.map_some, view_own, lift_some, e_len, h2, sub_I, h3, h1, hm, e2]
        rw [appv_val rfl (by rw [qP_len]; omega), sb_next, ← qP_succ]
        rfl
      obtain ⟨m, m1, m2, m3⟩ := ih (k + 1) j (by rw [show k + 1 + n = k + (n + 1) by omega]; exact h) (by omega)
      refine ⟨m, by omega, m2, ?_⟩
      rw [t, eb_ok, if_pos rfl, bd, sb_next, m3]

noncomputable def quL : List CS := [
    (.assign 4 (.bin .Mult (.lit (.int (2))) (.var 4))),
    (.ite (.cmp .LtE (.sub (.var 2) (.bin .Sub (.bin .Sub (.len (.var 2)) (.lit (.int (1)))) (.var 5))) (.var 3)) [
      (.assign 3 (.bin .Sub (.var 3) (.sub (.var 2) (.bin .Sub (.bin .Sub (.len (.var 2)) (.lit (.int (1)))) (.var 5))))),
      (.assign 4 (.bin .Add (.var 4) (.lit (.int (1)))))] [])]
theorem qu_div (Φ : Nat → List TV → Option (Out TV)) (x y : Int) (a b m : Nat) (hb0 : 0 < b) (ha : a ≤ 2 ^ 70) (hm : m ≤ 300) : ∀ (n s rest times : Nat) (jv : Option TV), s + n = m + 1 → a = times * (2 ^ n * b) + rest → rest < 2 ^ n * b →
    ∃ rest' times' jv', forP (fun d σ => evSs Φ 1000 quL (sset σ 5 (.val d))) ((List.range' s n).map fun (i : Nat) => PyData.int (i : Int)) [some (I x), some (I y), some (.own (qP b m)), some (I (rest : Nat)), some (I (times : Nat)), jv] =
      some (.ok (.next [some (I x), some (I y), some (.own (qP b m)), some (I (rest' : Nat)), some (I (times' : Nat)), jv'])) ∧ a = times' * b + rest' ∧ rest' < b := by
  intro n
  induction n with
  | zero =>
    intro s rest times jv _ h1 h2
    exact ⟨rest, times, jv, rfl, by simpa using h1, by simpa using h2⟩
  | succ n ih =>
    intro s rest times jv hs h1 h2
    rw [List.range'_succ, List.map_cons, for_cons]
    have hle : times ≤ a := by
      rw [h1]
      have : times * 1 ≤ times * (2 ^ (n + 1) * b) := Nat.mul_le_mul_left _ (Nat.mul_pos (Nat.pow_pos (by decide)) hb0)
      omega
    have hT : inTop (times : Int) = true := top_of (k := 70) (by rw [Int.natAbs_natCast]; omega) (by decide)
    have hmul := mulL2_I hT
    have e1 : (2 : Int) * (times : Int) = ((2 * times : Nat) : Int) := by push_cast; rfl
    have g1 := sub_L (qP_get (b := b) (k := m) (i := n) (by omega)) (by rw [qP_len]; omega)
    have g2 := len_L (xs := qP b m) (by rw [qP_len]; omega)
    have g3 : ((qP b m).length : Int) - 1 - (s : Int) = (n : Int) := by rw [qP_len]; omega
    have p2 : 2 ^ (n + 1) * b = 2 * (2 ^ n * b) := by rw [Nat.pow_succ, Nat.mul_comm (2 ^ n) 2, Nat.mul_assoc]
    generalize hp : 2 ^ n * b = p at *
    have step : ∃ rest' times', evSs Φ 1000 quL (sset [some (I x), some (I y), some (.own (qP b m)), some (I (rest : Nat)), some (I (times : Nat)), jv] 5 (.val (.int (s : Nat)))) = some (.ok (.next [some (I x), some (I y), some (.own (qP b m)), some (I (rest' : Nat)), some (I (times' : Nat)), some (.val (.int (s : Nat)))])) ∧ a = times' * p + rest' ∧ rest' < p := by
      by_cases hc : p ≤ rest
      · refine ⟨rest - p, 2 * times + 1, ?_, ?_, by omega⟩
        · have hc' : (p : Int) ≤ (rest : Int) := by omega
          have e3 : (rest : Int) - (p : Int) = ((rest - p : Nat) : Int) := by omega
          have e4 : ((2 * times : Nat) : Int) + 1 = ((2 * times + 1 : Nat) : Int) := by push_cast; rfl
          unfold quL
          simp only [sset_succ, sset_zero, ss_cons, s_assign, e_bin, e_lit, e_var, eb_ok, sget_succ, sget_zero, Option.map_some, view_val, view_own, lift_some, hmul, e1, keep_int, if_true, sb_next, s_ite, t_cmp, e_sub, e_len, g2, sub_I, g3, g1, le_I, hc', decide_true, e3, add_I, e4, ss_nil]
        · rw [h1, p2, Nat.add_mul, Nat.one_mul, Nat.mul_comm 2 times, Nat.mul_assoc]; omega
      · refine ⟨rest, 2 * times, ?_, ?_, by omega⟩
        · have hc' : ¬ ((p : Int) ≤ (rest : Int)) := by omega
          unfold quL
          simp only [sset_succ, sset_zero, ss_cons, s_assign, e_bin, e_lit, e_var, eb_ok, sget_succ, sget_zero, Option.map_some, view_val, view_own, lift_some, hmul, e1, keep_int, if_true, sb_next, s_ite, t_cmp, e_sub, e_len, g2, sub_I, g3, g1, le_I, hc', decide_false, Bool.false_eq_true, if_false, ss_nil]
        · rw [h1, p2, Nat.mul_comm 2 times, Nat.mul_assoc]
    obtain ⟨rest', times', s1, s2, s3⟩ := step
    obtain ⟨r2, t2, j2, q1, q2, q3⟩ := ih (s + 1) rest' times' (some (.val (.int (s : Nat)))) (by omega) s2 s3
    exact ⟨r2, t2, j2, by rw [s1, sb_next, q1], q2, q3⟩

theorem fdiv_by_parts {x y : Int} {a b q r : Nat} (hx : x.natAbs = a) (hy : y.natAbs = b) (hb : 0 < b) (h1 : a = q * b + r) (h2 : r < b) :
    x.fdiv y = if (decide (x < 0) = decide (y < 0)) then (q : Int) else if (r : Int) = 0 then -(q : Int) else -(q : Int) - 1 := by
  have hb' : (0 : Int) < (b : Int) := by omega
  have h1' : (a : Int) = (q : Int) * b + r := by rw [h1]; push_cast; rfl
  have pos : ((a : Int)).fdiv b = q := by
    rw [Int.fdiv_eq_ediv_of_nonneg _ (Int.le_of_lt hb')]
    refine ((Int.ediv_emod_unique (r := (r : Int)) hb').mpr ⟨?_, by omega, by omega⟩).1
    rw [h1', Int.mul_comm]; omega
  have neg : (-(a : Int)).fdiv b = if (r : Int) = 0 then -(q : Int) else -(q : Int) - 1 := by
    rw [Int.fdiv_eq_ediv_of_nonneg _ (Int.le_of_lt hb')]
    by_cases hr : (r : Int) = 0
    · rw [if_pos hr]
      refine ((Int.ediv_emod_unique (r := 0) hb').mpr ⟨?_, by omega, by omega⟩).1
      rw [h1', hr, Int.mul_neg, Int.mul_comm]; omega
    · rw [if_neg hr]
      refine ((Int.ediv_emod_unique (r := (b : Int) - r) hb').mpr ⟨?_, by omega, by omega⟩).1
      rw [h1', Int.mul_sub, Int.mul_neg, Int.mul_comm (b : Int) q, Int.mul_one]; omega
  by_cases hx0 : x < 0 <;> by_cases hy0 : y < 0
  · rw [if_pos (by simp [hx0, hy0]), ← pos, show x = -(a : Int) by omega, show y = -(b : Int) by omega, Int.neg_fdiv_neg]
  · rw [if_neg (by simp [hx0, hy0]), ← neg, show x = -(a : Int) by omega, show y = (b : Int) by omega]
  · rw [if_neg (by simp [hx0, hy0]), ← neg, show x = (a : Int) by omega, show y = -(b : Int) by omega, ← Int.neg_fdiv_neg, Int.neg_neg]
  · rw [if_pos (by simp [hx0, hy0]), ← pos, show x = (a : Int) by omega, show y = (b : Int) by omega]

@[simp] theorem eq_bool (a b : Bool) : cmpop .Eq (.val (.bool a)) (.val (.bool b)) = some (a == b) := rfl
theorem ev_quotient (d : Nat) (x y : Int) (hx : x.natAbs ≤ 2 ^ 68) (hy : y.natAbs ≤ 2 ^ 68) (hy0 : y ≠ 0) : evCall tbl 1000 (d + 1) 38 [I x, I y] = some (.ok (I (x.fdiv y))) := by
  rw [ev_fn (i := 38) (c := f_law_quotient) rfl (by decide) rfl rfl]
  have hb0 : 0 < y.natAbs := by omega
  obtain ⟨m, m1, m2, m3⟩ := qu_grow (evCall tbl 1000 d) x y y.natAbs (Nat.le_trans hy (Nat.pow_le_pow_right (by decide) (by decide))) none none none 69 0 930
    (by
      have : 2 ^ 69 * 1 ≤ 2 ^ (0 + 69) * y.natAbs := Nat.mul_le_mul (by simp) hb0
      have : (2 : Nat) ^ 68 < 2 ^ 69 := by decide
      omega) (by decide)
  obtain ⟨r, t, j, q1, q2, q3⟩ := qu_div (evCall tbl 1000 d) x y x.natAbs y.natAbs m hb0 (Nat.le_trans hx (Nat.pow_le_pow_right (by decide) (by decide))) (by omega) (m + 1) 0 x.natAbs 0 none (by omega) (by omega)
    (by rw [Nat.pow_succ, Nat.mul_comm (2 ^ m) 2, Nat.mul_assoc]; omega)
  rw [← List.range_eq_range'] at q1
  have hloop : evS (evCall tbl 1000 d) 1000 (.loop quT quB) [some (I x), some (I y), some (.own (qP y.natAbs 0)), none, none, none] = _ := (s_loop _ _).trans m3
  have g2 := len_L (xs := qP y.natAbs m) (by rw [qP_len]; omega)
  have hrng : rngv (I ((qP y.natAbs m).length : Int)) = some (.ok ((List.range (m + 1)).map fun (i : Nat) => PyData.int (i : Int))) := by
    rw [qP_len]
    show (if _ then _ else _) = _
    rw [if_pos (by omega)]
    rfl
  have hfor : evS (evCall tbl 1000 d) 1000 (.for1 5 (.rng (.len (.var 2))) quL) [some (I x), some (I y), some (.own (qP y.natAbs m)), some (I (x.natAbs : Nat)), some (I ((0 : Nat) : Int)), none] = some (.ok (.next [some (I x), some (I y), some (.own (qP y.natAbs m)), some (I (r : Nat)), some (I (t : Nat)), j])) := by
    rw [s_for1, it_rng, e_len, e_var]
    simp only [sget_succ, sget_zero, Option.map_some, view_own, lift_some, eb_ok, g2, hrng]
    exact q1
  have hfd := fdiv_by_parts (x := x) (y := y) rfl rfl hb0 q2 q3
  have s1 : evS (evCall tbl 1000 d) 1000 (.assign 2 (.lst [(.abs (.var 1))])) [some (I x), some (I y), none, none, none, none] = some (.ok (.next [some (I x), some (I y), some (.own (qP y.natAbs 0)), none, none, none])) := by
    have : qP y.natAbs 0 = [.int (y.natAbs : Nat)] := by simp [qP]
    rw [this]
    simp [abs_I, okSize]
  have s3 : evS (evCall tbl 1000 d) 1000 (.assign 3 (.abs (.var 0))) [some (I x), some (I y), some (.own (qP y.natAbs m)), none, none, none] = some (.ok (.next [some (I x), some (I y), some (.own (qP y.natAbs m)), some (I (x.natAbs : Nat)), none, none])) := by
    simp [abs_I]
  have s4 : evS (evCall tbl 1000 d) 1000 (.assign 4 (.lit (.int (0)))) [some (I x), some (I y), some (.own (qP y.natAbs m)), some (I (x.natAbs : Nat)), none, none] = some (.ok (.next [some (I x), some (I y), some (.own (qP y.natAbs m)), some (I (x.natAbs : Nat)), some (I ((0 : Nat) : Int)), none])) := by
    simp
  show fin (evSs _ _ (_ :: (.loop quT quB) :: _ :: _ :: (.for1 5 (.rng (.len (.var 2))) quL) :: _) [some (I x), some (I y), none, none, none, none]) = _
  rw [ss_cons, s1, sb_next, ss_cons, hloop, sb_next, ss_cons, s3, sb_next, ss_cons, s4, sb_next, ss_cons, hfor, sb_next, hfd]
  by_cases h1 : (decide (x < 0) = decide (y < 0))
  · rw [if_pos h1]
    have h1' : (decide (x < 0) == decide (y < 0)) = true := by simpa using h1
    simp [h1']
  · rw [if_neg h1]
    have h1' : (decide (x < 0) == decide (y < 0)) = false := by simpa using h1
    by_cases hr : (r : Int) = 0
    · rw [if_pos hr]
      have hr' : r = 0 := by omega
      subst hr'
      simp [h1']
    · rw [if_neg hr]
      have hr' : ¬ r = 0 := by omega
      simp [h1', hr']
end NP
end
section
open PySem PySem.Calls PyProof.Rows PySem.W PySem.Spec
set_option maxRecDepth 100000
namespace NP

theorem nat_and2 (a b : Nat) : (a &&& b) = 2 * ((a / 2) &&& (b / 2)) + (a % 2) * (b % 2) := by
  have h1 : (a &&& b) / 2 = (a / 2) &&& (b / 2) := Nat.and_div_two
  have h2 : (a &&& b) % 2 = (a % 2) * (b % 2) := by
    have e : (a &&& b) % 2 = (a % 2) &&& (b % 2) := by
      have := Nat.and_mod_two_pow (a := a) (b := b) (n := 1)
      simpa using this
    rw [e]
    rcases Nat.mod_two_eq_zero_or_one a with h | h <;> rcases Nat.mod_two_eq_zero_or_one b with h' | h' <;> rw [h, h'] <;> rfl
  omega
theorem nat_or2 (a b : Nat) : (a ||| b) = 2 * ((a / 2) ||| (b / 2)) + (a % 2 + b % 2 - (a % 2) * (b % 2)) := by
  have h1 : (a ||| b) / 2 = (a / 2) ||| (b / 2) := Nat.or_div_two
  have h2 : (a ||| b) % 2 = (a % 2 + b % 2 - (a % 2) * (b % 2)) := by
    have e : (a ||| b) % 2 = (a % 2) ||| (b % 2) := by
      have := Nat.or_mod_two_pow (a := a) (b := b) (n := 1)
      simpa using this
    rw [e]
    rcases Nat.mod_two_eq_zero_or_one a with h | h <;> rcases Nat.mod_two_eq_zero_or_one b with h' | h' <;> rw [h, h'] <;> rfl
  omega
theorem and_pp {x y : Int} (hx : 0 ≤ x) (hy : 0 ≤ y) : Builtin.bitAnd x y = ((x.toNat &&& y.toNat : Nat) : Int) := by
  unfold Builtin.bitAnd; simp [hx, hy]
theorem and_pn {x y : Int} (hx : 0 ≤ x) (hy : ¬ 0 ≤ y) : Builtin.bitAnd x y = x - ((x.toNat &&& (-y - 1).toNat : Nat) : Int) := by
  unfold Builtin.bitAnd Builtin.bitNot; simp [hx, hy]
theorem and_np {x y : Int} (hx : ¬ 0 ≤ x) (hy : 0 ≤ y) : Builtin.bitAnd x y = y - ((y.toNat &&& (-x - 1).toNat : Nat) : Int) := by
  unfold Builtin.bitAnd Builtin.bitNot; simp [hx, hy]
theorem and_nn {x y : Int} (hx : ¬ 0 ≤ x) (hy : ¬ 0 ≤ y) : Builtin.bitAnd x y = -(((-x - 1).toNat ||| (-y - 1).toNat : Nat) : Int) - 1 := by
  unfold Builtin.bitAnd Builtin.bitNot; simp [hx, hy]
theorem par (x : Int) : x % 2 = 0 ∨ x % 2 = 1 := by omega
theorem parN (x : Nat) : x % 2 = 0 ∨ x % 2 = 1 := by omega

theorem int_two (x : Int) : ∃ m : Nat, x = m ∨ x = -(m : Int) - 1 := by
  cases x with
  | ofNat m => exact ⟨m, .inl rfl⟩
  | negSucc m => exact ⟨m, .inr (by rw [Int.negSucc_eq]; omega)⟩
theorem pos_half (m : Nat) : (m : Int) / 2 = ((m / 2 : Nat) : Int) ∧ (m : Int) % 2 = ((m % 2 : Nat) : Int) := ⟨rfl, rfl⟩
theorem neg_half (m : Nat) : (-(m : Int) - 1) / 2 = -((m / 2 : Nat) : Int) - 1 ∧ (-(m : Int) - 1) % 2 = 1 - ((m % 2 : Nat) : Int) := by omega
theorem not_pos (m : Nat) : ¬ (0 ≤ -(m : Int) - 1) ∧ (-(-(m : Int) - 1) - 1).toNat = m := by omega
theorem and_PP (m n : Nat) : Builtin.bitAnd m n = ((m &&& n : Nat) : Int) := and_pp (Int.natCast_nonneg m) (Int.natCast_nonneg n)
theorem and_PN (m n : Nat) : Builtin.bitAnd m (-(n : Int) - 1) = (m : Int) - ((m &&& n : Nat) : Int) := by
  rw [and_pn (Int.natCast_nonneg m) (not_pos n).1, (not_pos n).2]; rfl
theorem and_NP (m n : Nat) : Builtin.bitAnd (-(m : Int) - 1) n = (n : Int) - ((n &&& m : Nat) : Int) := by
  rw [and_np (not_pos m).1 (Int.natCast_nonneg n), (not_pos m).2]; rfl
theorem and_NN (m n : Nat) : Builtin.bitAnd (-(m : Int) - 1) (-(n : Int) - 1) = -((m ||| n : Nat) : Int) - 1 := by
  rw [and_nn (not_pos m).1 (not_pos n).1, (not_pos m).2, (not_pos n).2]
theorem mul_le2 (m n : Nat) : (m % 2) * (n % 2) ≤ m % 2 + n % 2 := by
  rcases parN m with h | h <;> rcases parN n with h' | h' <;> rw [h, h'] <;> decide
theorem lin_PP (K p : Nat) : ((2 * K + p : Nat) : Int) = 2 * (K : Int) + p := by omega
theorem lin_PN (a M K p : Nat) : ((2 * M + a : Nat) : Int) - ((2 * K + p : Nat) : Int) = 2 * ((M : Int) - K) + (a - p) := by omega
theorem lin_NN (K a b p : Nat) (h : p ≤ a + b) : -((2 * K + (a + b - p) : Nat) : Int) - 1 = 2 * (-(K : Int) - 1) + (1 - a - b + p) := by omega
theorem mul_1s (a b : Int) : a * (1 - b) = a - a * b := by rw [Int.mul_sub, Int.mul_one]
theorem s1_mul (a b : Int) : (1 - a) * b = b - a * b := by rw [Int.sub_mul, Int.one_mul]
theorem s1_1s (a b : Int) : (1 - a) * (1 - b) = 1 - a - b + a * b := by
  rw [mul_1s, s1_mul]; omega
theorem and_step (x y : Int) : Builtin.bitAnd x y = 2 * Builtin.bitAnd (x / 2) (y / 2) + (x % 2) * (y % 2) := by
  obtain ⟨m, hx⟩ := int_two x
  obtain ⟨n, hy⟩ := int_two y
  have hm : ((2 * (m / 2) + m % 2 : Nat) : Int) = m := congrArg _ (Nat.div_add_mod m 2)
  have hn : ((2 * (n / 2) + n % 2 : Nat) : Int) = n := congrArg _ (Nat.div_add_mod n 2)
  rcases hx with rfl | rfl <;> rcases hy with rfl | rfl
  · rw [(pos_half m).1, (pos_half m).2, (pos_half n).1, (pos_half n).2, and_PP, and_PP, nat_and2, lin_PP, Int.natCast_mul]
  · rw [(pos_half m).1, (pos_half m).2, (neg_half n).1, (neg_half n).2, and_PN, and_PN, nat_and2, ← hm, lin_PN, mul_1s, Int.natCast_mul]
  · rw [(neg_half m).1, (neg_half m).2, (pos_half n).1, (pos_half n).2, and_NP, and_NP, nat_and2, ← hn, lin_PN, s1_mul, Int.natCast_mul, Int.mul_comm ((n % 2 : Nat) : Int)]
  · rw [(neg_half m).1, (neg_half m).2, (neg_half n).1, (neg_half n).2, and_NN, and_NN, nat_or2, lin_NN _ _ _ _ (mul_le2 m n), s1_1s, Int.natCast_mul]

noncomputable def bitF (op : Nat) (x y : Int) : Int := if op = 38 then Builtin.bitAnd x y else if op = 124 then Builtin.bitOr x y else Builtin.bitXor x y
noncomputable def bitG (op : Nat) (a b : Int) : Int := if op = 38 then a * b else if op = 124 then (if b > a then b else a) else (a + b) % 2
theorem or_step (x y : Int) : Builtin.bitOr x y = 2 * Builtin.bitOr (x / 2) (y / 2) + (if y % 2 > x % 2 then y % 2 else x % 2) := by
  unfold Builtin.bitOr Builtin.bitNot
  rw [and_step, show (-x - 1) / 2 = -(x / 2) - 1 by omega, show (-y - 1) / 2 = -(y / 2) - 1 by omega]
  rcases par x with h | h <;> rcases par y with h' | h' <;> rw [h, h']
  · rw [show (-x - 1) % 2 = 1 by omega, show (-y - 1) % 2 = 1 by omega]; simp; omega
  · rw [show (-y - 1) % 2 = 0 by omega]; simp; omega
  · rw [show (-x - 1) % 2 = 0 by omega]; simp; omega
  · rw [show (-x - 1) % 2 = 0 by omega]; simp; omega
theorem xor_step (x y : Int) : Builtin.bitXor x y = 2 * Builtin.bitXor (x / 2) (y / 2) + (x % 2 + y % 2) % 2 := by
  unfold Builtin.bitXor
  rw [and_step x y, or_step x y]
  rcases par x with h | h <;> rcases par y with h' | h' <;> rw [h, h'] <;> simp <;> omega
theorem bit_step (op : Nat) (x y : Int) : bitF op x y = 2 * bitF op (x / 2) (y / 2) + bitG op (x % 2) (y % 2) := by
  unfold bitF bitG
  split
  · exact and_step x y
  · split
    · exact or_step x y
    · exact xor_step x y
theorem bitG_range (op : Nat) {a b : Int} (ha : a = 0 ∨ a = 1) (hb : b = 0 ∨ b = 1) : bitG op a b = 0 ∨ bitG op a b = 1 := by
  unfold bitG
  split
  · rcases ha with rfl | rfl <;> rcases hb with rfl | rfl <;> simp
  · split
    · split <;> assumption
    · omega
theorem bit_base (op : Nat) {x y : Int} (hx : x = 0 ∨ x = -1) (hy : y = 0 ∨ y = -1) : bitF op x y = -bitG op (x % 2) (y % 2) := by
  have h := bit_step op x y
  have e1 : x / 2 = x := by omega
  have e2 : y / 2 = y := by omega
  rw [e1, e2] at h
  omega
theorem bit_range (op : Nat) : ∀ (m : Nat) (x y : Int), -(2 ^ m) ≤ x → x < 2 ^ m → -(2 ^ m) ≤ y → y < 2 ^ m → -(2 ^ m) ≤ bitF op x y ∧ bitF op x y < 2 ^ m := by
  intro m
  induction m with
  | zero =>
    intro x y h1 h2 h3 h4
    have e : (2 : Int) ^ 0 = 1 := rfl
    rw [e] at *
    rw [bit_base op (by omega) (by omega)]
    rcases bitG_range op (par x) (par y) with h | h <;> rw [h] <;> omega
  | succ m ih =>
    intro x y h1 h2 h3 h4
    have hp : (2 : Int) ^ (m + 1) = 2 ^ m * 2 := Int.pow_succ 2 m
    rw [hp] at *
    have := ih (x / 2) (y / 2) (by omega) (by omega) (by omega) (by omega)
    rw [bit_step]
    rcases bitG_range op (par x) (par y) with h | h <;> rw [h] <;> omega

theorem max_I (a b : Int) : maxop (I a) (I b) = some (I (if b > a then b else a)) := rfl
theorem fm2 (a : Int) : a.fmod 2 = a % 2 := Int.fmod_eq_emod_of_nonneg _ (by decide)
theorem fd2 (a : Int) : a.fdiv 2 = a / 2 := Int.fdiv_eq_ediv_of_nonneg _ (by decide)
theorem ev_bit (d : Nat) {op : Nat} (ho : op = 38 ∨ op = 124 ∨ op = 94) {a b : Int} (ha : a = 0 ∨ a = 1) (hb : b = 0 ∨ b = 1) : evCall tbl 1000 (d + 1) 41 [S [op], I a, I b] = some (.ok (I (bitG op a b))) := by
  rw [ev_fn (i := 41) (c := f_law_bit) rfl (by decide) rfl rfl]
  have T : ∀ {a : Int}, a = 0 ∨ a = 1 → inTop a = true := fun {a} h => by rcases h with rfl | rfl <;> decide +kernel
  rcases ho with rfl | rfl | rfl
  · exact k_take rfl (k_ret (v := I (a * b)) (k_bin rfl rfl (mul_I (T ha) (T hb))))
  · exact k_skip rfl (k_ret (v := I (if b > a then b else a)) (k_ifT rfl rfl))
  · exact k_skip rfl (k_ret (v := I ((a + b) % 2)) (k_ifF rfl (k_bin (u := I (a + b)) rfl rfl ((mod2_I (a + b)).trans (by rw [fm2])))))

theorem pow2_le {a b : Nat} (h : a ≤ b) : (2 : Int) ^ a ≤ 2 ^ b := by
  have := Int.ofNat_le.mpr (Nat.pow_le_pow_right (n := 2) (by decide) h)
  rw [Int.natCast_pow, Int.natCast_pow] at this
  exact this
theorem top_pow2 {w : Int} {k : Nat} (h0 : 0 ≤ w) (h : w ≤ 2 ^ k) (hk : k < 1900) : inTop w = true := by
  refine top_of (k := k) ?_ hk
  have h9 : ((2 ^ k : Nat) : Int) = 2 ^ k := Int.natCast_pow 2 k
  omega
noncomputable def btT : CE := .boolop false [(.cmp .NotIn (.var 1) (.tup [(.lit (.int (0))), (.neg (.lit (.int (1))))])), (.cmp .NotIn (.var 2) (.tup [(.lit (.int (0))), (.neg (.lit (.int (1))))]))]
noncomputable def btB : List CS := [
    (.assign 3 (.bin .Add (.var 3) (.bin .Mult (.var 4) (.call 41 [(.var 0), (.bin .Mod (.var 1) (.lit (.int (2)))), (.bin .Mod (.var 2) (.lit (.int (2))))])))),
    (.assign 4 (.bin .Mult (.lit (.int (2))) (.var 4))),
    (.assign 1 (.bin .FloorDiv (.var 1) (.lit (.int (2))))),
    (.assign 2 (.bin .FloorDiv (.var 2) (.lit (.int (2)))))]
theorem nin_01 {Φ : Nat → List TV → Option (Out TV)} {σ : Store} {i : Nat} {z : Int} (h : sget σ i = some (I z)) : evT Φ (.cmp .NotIn (.var i) (.tup [(.lit (.int (0))), (.neg (.lit (.int (1))))])) σ = some (.ok (!(decide (z = 0) || decide (z = -1)))) :=
  k_cmp (u := I z) (by rw [e_var, h]; rfl) rfl (notin_01 z)
theorem bt_t (Φ : Nat → List TV → Option (Out TV)) (op : Nat) (x y t w : Int) : evT Φ btT [some (S [op]), some (I x), some (I y), some (I t), some (I w)] = some (.ok (!(decide (x = 0) || decide (x = -1)) || !(decide (y = 0) || decide (y = -1)))) := by
  unfold btT
  rw [t_bool, ts_or, nin_01 rfl, eb_ok, ts_or, nin_01 rfl, eb_ok, ts_nil]
  generalize (!(decide (x = 0) || decide (x = -1))) = p
  generalize (!(decide (y = 0) || decide (y = -1))) = q
  cases p <;> cases q <;> rfl
theorem bt_loop (d : Nat) {op : Nat} (ho : op = 38 ∨ op = 124 ∨ op = 94) : ∀ (m j : Nat) (x y t w : Int), -(2 ^ m) ≤ x → x < 2 ^ m → -(2 ^ m) ≤ y → y < 2 ^ m → 0 ≤ w → w ≤ 2 ^ (200 - m) → m ≤ 100 →
    ∃ x' y' t' w', loopP (evT (evCall tbl 1000 (d + 1)) btT) (evSs (evCall tbl 1000 (d + 1)) 1000 btB) (m + 1 + j) [some (S [op]), some (I x), some (I y), some (I t), some (I w)] =
      some (.ok (.next [some (S [op]), some (I x'), some (I y'), some (I t'), some (I w')])) ∧ (x' = 0 ∨ x' = -1) ∧ (y' = 0 ∨ y' = -1) ∧ 0 ≤ w' ∧ w' ≤ 2 ^ 200 ∧ t' + w' * bitF op x' y' = t + w * bitF op x y := by
  intro m
  induction m with
  | zero =>
    intro j x y t w h1 h2 h3 h4 w0 w1 hm
    have e : (2 : Int) ^ 0 = 1 := rfl
    rw [e] at h1 h2 h3 h4
    refine ⟨x, y, t, w, ?_, by omega, by omega, w0, w1, rfl⟩
    rw [show 0 + 1 + j = j + 1 by omega, loop_succ, bt_t]
    have hx : x = 0 ∨ x = -1 := by omega
    have hy : y = 0 ∨ y = -1 := by omega
    rcases hx with rfl | rfl <;> rcases hy with rfl | rfl <;> rfl
  | succ m ih =>
    intro j x y t w h1 h2 h3 h4 w0 w1 hm
    rw [show m + 1 + 1 + j = (m + 1 + j) + 1 by omega, loop_succ, bt_t]
    by_cases hs : (x = 0 ∨ x = -1) ∧ (y = 0 ∨ y = -1)
    · refine ⟨x, y, t, w, ?_, hs.1, hs.2, w0, Int.le_trans w1 ?_, rfl⟩
      · rcases hs with ⟨rfl | rfl, rfl | rfl⟩ <;> rfl
      · exact pow2_le (by omega)
    · have hp : (2 : Int) ^ (m + 1) = 2 ^ m * 2 := Int.pow_succ 2 m
      rw [hp] at h1 h2 h3 h4
      have hw2 : 2 * w ≤ 2 ^ (200 - m) := by
        have : (2 : Int) ^ (200 - m) = 2 ^ (200 - (m + 1)) * 2 := by rw [← Int.pow_succ]; congr 1; omega
        rw [this]; omega
      have hwT : inTop w = true := top_pow2 w0 w1 (by omega)
      obtain ⟨x', y', t', w', a1, a2, a3, a4, a5, a6⟩ := ih j (x / 2) (y / 2) (t + w * bitG op (x % 2) (y % 2)) (2 * w) (by omega) (by omega) (by omega) (by omega) (by omega) hw2 (by omega)
      refine ⟨x', y', t', w', ?_, a2, a3, a4, a5, ?_⟩
      · have b : evSs (evCall tbl 1000 (d + 1)) 1000 btB [some (S [op]), some (I x), some (I y), some (I t), some (I w)] = some (.ok (.next [some (S [op]), some (I (x / 2)), some (I (y / 2)), some (I (t + w * bitG op (x % 2) (y % 2))), some (I (2 * w))])) := by
          have hbit := ev_bit d ho (par x) (par y)
          have hgT : inTop (bitG op (x % 2) (y % 2)) = true := by rcases bitG_range op (par x) (par y) with h | h <;> rw [h] <;> decide +kernel
          have hmul := mul_I hwT hgT
          have m : ∀ z : Int, binop .Mod (I z) (.val (.int 2)) = some (I (z % 2)) := fun z => fm2 z ▸ mod2_I z
          have q : ∀ z : Int, binop .FloorDiv (I z) (.val (.int 2)) = some (I (z / 2)) := fun z => fd2 z ▸ div2_I z
          exact k_assign (v := I (t + w * bitG op (x % 2) (y % 2))) (k_bin (u := I t) rfl (k_bin (u := I w) rfl (k_call (k_es3 (u := S [op]) rfl (k_bin (u := I x) rfl rfl (m x)) (k_bin (u := I y) rfl rfl (m y))) hbit) hmul) rfl) rfl
            (k_assign (v := I (2 * w)) (k_bin rfl rfl (mulL2_I hwT)) rfl (k_assign (v := I (x / 2)) (k_bin (u := I x) rfl rfl (q x)) rfl (k_assign (v := I (y / 2)) (k_bin (u := I y) rfl rfl (q y)) rfl rfl)))
        have hc : (!(decide (x = 0) || decide (x = -1)) || !(decide (y = 0) || decide (y = -1))) = true := by
          have e : ∀ z : Int, (decide (z = 0) || decide (z = -1)) = decide (z = 0 ∨ z = -1) := fun z => (Bool.decide_or _ _).symm
          rw [e, e]
          by_cases q1 : x = 0 ∨ x = -1
          · rw [decide_eq_true q1, decide_eq_false fun q => hs ⟨q1, q⟩]; rfl
          · rw [decide_eq_false q1]; rfl
        rw [hc, eb_ok, if_pos rfl, b, sb_next, a1]
      · rw [a6, bit_step op x y, Int.mul_add, ← Int.mul_assoc, Int.mul_comm w 2]; omega
theorem ev_bits (d : Nat) {op : Nat} (ho : op = 38 ∨ op = 124 ∨ op = 94) {x y : Int} (hx : x.natAbs ≤ 2 ^ 66) (hy : y.natAbs ≤ 2 ^ 66) : evCall tbl 1000 (d + 2) 42 [S [op], I x, I y] = some (.ok (I (bitF op x y))) := by
  rw [ev_fn (i := 42) (c := f_law_bits) rfl (by decide) rfl rfl]
  obtain ⟨x', y', t', w', a1, a2, a3, a4, a5, a6⟩ := bt_loop d ho 67 932 x y 0 1 (by omega) (by omega) (by omega) (by omega) (by decide) (by decide) (by decide)
  have hloop : evS (evCall tbl 1000 (d + 1)) 1000 (.loop btT btB) [some (S [op]), some (I x), some (I y), some (I 0), some (I 1)] = _ := (s_loop _ _).trans a1
  have hwT : inTop w' = true := top_pow2 a4 a5 (by decide)
  have hbit := ev_bit d ho (par x') (par y')
  have hgT : inTop (bitG op (x' % 2) (y' % 2)) = true := by rcases bitG_range op (par x') (par y') with h | h <;> rw [h] <;> decide +kernel
  have hmul := mul_I hwT hgT
  have hb := bit_base op a2 a3
  rw [hb, Int.mul_neg] at a6
  have hr : t' - w' * bitG op (x' % 2) (y' % 2) = bitF op x y := by omega
  show fin (evSs _ _ (_ :: _ :: (.loop btT btB) :: _) [some (S [op]), some (I x), some (I y), none, none]) = _
  have m : ∀ z : Int, binop .Mod (I z) (.val (.int 2)) = some (I (z % 2)) := fun z => fm2 z ▸ mod2_I z
  rw [← hr]
  exact k_set (v := I 0) rfl rfl (k_set (v := I 1) rfl rfl (k_do hloop (k_ret (v := I (t' - w' * bitG op (x' % 2) (y' % 2))) (k_bin (u := I t') rfl (k_bin (u := I w') rfl (k_call (k_es3 (u := S [op]) rfl (k_bin (u := I x') rfl rfl (m x')) (k_bin (u := I y') rfl rfl (m y'))) hbit) hmul) rfl))))
theorem bitF_top {op : Nat} {x y : Int} (hx : x.natAbs ≤ 2 ^ 66) (hy : y.natAbs ≤ 2 ^ 66) : inTop (bitF op x y) = true := by
  have := bit_range op 67 x y (by omega) (by omega) (by omega) (by omega)
  exact top_of (k := 67) (by omega) (by decide)
end NP
end
section
open PySem PySem.Calls PyProof.Rows PySem.W PySem.Spec
set_option maxRecDepth 100000
namespace NP

noncomputable def opsL : List (List Nat) := [[43], [45], [42], [47], [37], [42, 42], [60, 60], [62, 62], [38], [124], [94]]
noncomputable def KeptOp (op : List Nat) (y : Int) : Prop := (op = [42, 42] → y < 25 ∨ 268435456 ≤ y) ∧ (op = [60, 60] → y ≤ 70 ∨ 2147483648 ≤ y)

theorem due_err (t : Str) (ec : PyData) : dueM (some (.exc t ec)) = some (.ok (.val (.tuple [.int 1, .str t, ec]))) := rfl
section
variable {Φ : Nat → List TV → Option (Out TV)} {x y : Int}
theorem fdiv_le (x y : Int) : (x.fdiv y).natAbs ≤ x.natAbs + 1 := by
  rw [Int.fdiv_eq_ediv]
  have := Int.natAbs_ediv_le_natAbs x y
  split <;> omega
noncomputable def divMsg : Str := ⟨#[100, 105, 118, 105, 100, 101, 32, 98, 121, 32, 122, 101, 114, 111]⟩
noncomputable def divEc : List PyData := [.str ⟨#[65, 82, 73, 84, 72]⟩, .str ⟨#[68, 73, 86, 90, 69, 82, 79]⟩, .str divMsg]
noncomputable abbrev aSt (op : List Nat) (x y : Int) : Store := [some (S op), some (I x), some (I y)]
noncomputable abbrev dSt (op : List Nat) (x y : Int) : Store := [some (S op), some (I x), some (I y), none]
theorem a_add : fin (evSs Φ 1000 f_arithmetic.body (aSt [43] x y)) = some (.ok (I (x + y))) := k_take rfl (k_ret (v := I (x + y)) rfl)
theorem a_sub : fin (evSs Φ 1000 f_arithmetic.body (aSt [45] x y)) = some (.ok (I (x - y))) := k_skip rfl (k_take rfl (k_ret (v := I (x - y)) rfl))
theorem a_mul (h : binop .Mult (I x) (I y) = some (I (x * y))) : fin (evSs Φ 1000 f_arithmetic.body (aSt [42] x y)) = some (.ok (I (x * y))) := k_skip rfl (k_skip rfl (k_take rfl (k_ret (v := I (x * y)) (k_bin rfl rfl h))))
theorem a_div (c : Φ 20 [I y] = some (.ok (.val .none))) (h : binop .FloorDiv (I x) (I y) = some (I (x.fdiv y))) : fin (evSs Φ 1000 f_arithmetic.body (aSt [47] x y)) = some (.ok (I (x.fdiv y))) :=
  k_skip rfl (k_skip rfl (k_skip rfl (k_take rfl (k_drop (k_call (vs := [I y]) rfl c) (k_ret (v := I (x.fdiv y)) (k_bin rfl rfl h))))))
theorem a_div0 {t : Str} {ec : PyData} (c : Φ 20 [I y] = some (.exc t ec)) : fin (evSs Φ 1000 f_arithmetic.body (aSt [47] x y)) = some (.exc t ec) :=
  k_skip rfl (k_skip rfl (k_skip rfl (k_take rfl (k_dropX (k_call (vs := [I y]) rfl c)))))
theorem a_mod (c : Φ 20 [I y] = some (.ok (.val .none))) (h : binop .Mod (I x) (I y) = some (I (x.fmod y))) : fin (evSs Φ 1000 f_arithmetic.body (aSt [37] x y)) = some (.ok (I (x.fmod y))) :=
  k_skip rfl (k_skip rfl (k_skip rfl (k_skip rfl (k_take rfl (k_drop (k_call (vs := [I y]) rfl c) (k_ret (v := I (x.fmod y)) (k_bin rfl rfl h)))))))
theorem a_mod0 {t : Str} {ec : PyData} (c : Φ 20 [I y] = some (.exc t ec)) : fin (evSs Φ 1000 f_arithmetic.body (aSt [37] x y)) = some (.exc t ec) :=
  k_skip rfl (k_skip rfl (k_skip rfl (k_skip rfl (k_take rfl (k_dropX (k_call (vs := [I y]) rfl c))))))
theorem k_retAS {σ : Store} {e : CE} {rest : List CS} {r : Option (Out TV)} (hs : AS r) (h : evE Φ e σ = r) : fin (evSs Φ 1000 (.ret e :: rest) σ) = r := by
  rcases hs with ⟨v, q, _⟩ | ⟨t, ec, q, _⟩ <;> subst q
  · exact k_ret h
  · exact k_retX h
theorem a_pow {r : Option (Out TV)} (hs : AS r) (h : Φ 21 [I x, I y] = r) : fin (evSs Φ 1000 f_arithmetic.body (aSt [42, 42] x y)) = r :=
  k_skip rfl (k_skip rfl (k_skip rfl (k_skip rfl (k_skip rfl (k_take rfl (k_retAS hs (k_call (vs := [I x, I y]) rfl h)))))))
theorem a_shl {r : Option (Out TV)} (hs : AS r) (h : Φ 23 [I x, I y] = r) : fin (evSs Φ 1000 f_arithmetic.body (aSt [60, 60] x y)) = r :=
  k_skip rfl (k_skip rfl (k_skip rfl (k_skip rfl (k_skip rfl (k_skip rfl (k_take rfl (k_retAS hs (k_call (vs := [I x, I y]) rfl h))))))))
theorem a_shr {r : Option (Out TV)} (hs : AS r) (h : Φ 24 [I x, I y] = r) : fin (evSs Φ 1000 f_arithmetic.body (aSt [62, 62] x y)) = r :=
  k_skip rfl (k_skip rfl (k_skip rfl (k_skip rfl (k_skip rfl (k_skip rfl (k_skip rfl (k_take rfl (k_retAS hs (k_call (vs := [I x, I y]) rfl h)))))))))
theorem a_bit {op : Nat} (ho : op = 38 ∨ op = 124 ∨ op = 94) : fin (evSs Φ 1000 f_arithmetic.body (aSt [op] x y)) = some (.ok (I (bitF op x y))) := by
  have p : ∀ {op : Nat}, op = 38 ∨ op = 124 ∨ op = 94 → fin (evSs Φ 1000 f_arithmetic.body (aSt [op] x y)) = fin (evSs Φ 1000 (f_arithmetic.body.drop 8) (aSt [op] x y)) := fun h => by
    rcases h with rfl | rfl | rfl <;> exact k_skip rfl (k_skip rfl (k_skip rfl (k_skip rfl (k_skip rfl (k_skip rfl (k_skip rfl (k_skip rfl rfl)))))))
  refine (p ho).trans ?_
  rcases ho with rfl | rfl | rfl
  · exact k_take rfl (k_ret (v := I (Builtin.bitAnd x y)) rfl)
  · exact k_skip rfl (k_take rfl (k_ret (v := I (Builtin.bitOr x y)) rfl))
  · exact k_skip rfl (k_skip rfl (k_take rfl (k_ret (v := I (Builtin.bitXor x y)) rfl)))
theorem d_t {op : List Nat} {xs : List PyData} {es : List CE} {b : Bool} (hes : evE Φ (.tup es) (dSt op x y) = some (.ok (.val (.tuple xs)))) (ok : okS op = true) (hx : xs.all isS = true) (h : anyEq (.str ⟨op.toArray⟩) xs = b) : evT Φ (.cmp .In (.var 0) (.tup es)) (dSt op x y) = some (.ok b) := by
  subst h
  exact k_cmp (u := S op) rfl hes (in_tS ok hx)
theorem d_1 {op : List Nat} {b : Bool} (ok : okS op = true) (h : anyEq (.str ⟨op.toArray⟩) [.str ⟨#[47]⟩, .str ⟨#[37]⟩] = b) : evT Φ (.cmp .In (.var 0) (.tup [(.lit (.str ⟨#[47]⟩)), (.lit (.str ⟨#[37]⟩))])) (dSt op x y) = some (.ok b) := d_t rfl ok (by decide +kernel) h
theorem d_2 {op : List Nat} {b : Bool} (ok : okS op = true) (h : anyEq (.str ⟨op.toArray⟩) [.str ⟨#[60, 60]⟩, .str ⟨#[62, 62]⟩] = b) : evT Φ (.cmp .In (.var 0) (.tup [(.lit (.str ⟨#[60, 60]⟩)), (.lit (.str ⟨#[62, 62]⟩))])) (dSt op x y) = some (.ok b) := d_t rfl ok (by decide +kernel) h
theorem d_3 {op : List Nat} {b : Bool} (ok : okS op = true) (h : anyEq (.str ⟨op.toArray⟩) [.str ⟨#[38]⟩, .str ⟨#[124]⟩, .str ⟨#[94]⟩] = b) : evT Φ (.cmp .In (.var 0) (.tup [(.lit (.str ⟨#[38]⟩)), (.lit (.str ⟨#[124]⟩)), (.lit (.str ⟨#[94]⟩))])) (dSt op x y) = some (.ok b) := d_t rfl ok (by decide +kernel) h
theorem d_lin {op : List Nat} (ho : op = [43] ∨ op = [45]) {v : Int} (hv : v = if op = [43] then x + y else x - y) (h : Φ 36 [I v] = goodR v) : fin (evSs Φ 1000 f_law_due.body (dSt op x y)) = goodR v := by
  subst hv
  rcases ho with rfl | rfl
  · exact k_skip (d_1 rfl (by kernel_rfl)) (k_skip rfl (k_skip (d_2 rfl (by kernel_rfl)) (k_skip (d_3 rfl (by kernel_rfl)) (k_skip rfl (k_ret (v := .val (goodP (strI (x + y)))) (k_call (vs := [I (x + y)]) (k_es1 (k_ifT rfl rfl)) h))))))
  · exact k_skip (d_1 rfl (by kernel_rfl)) (k_skip rfl (k_skip (d_2 rfl (by kernel_rfl)) (k_skip (d_3 rfl (by kernel_rfl)) (k_skip rfl (k_ret (v := .val (goodP (strI (x - y)))) (k_call (vs := [I (x - y)]) (k_es1 (k_ifF rfl rfl)) h))))))
theorem d_mul (hm : binop .Mult (I x) (I y) = some (I (x * y))) (h : Φ 36 [I (x * y)] = goodR (x * y)) : fin (evSs Φ 1000 f_law_due.body (dSt [42] x y)) = goodR (x * y) :=
  k_skip (d_1 rfl (by kernel_rfl)) (k_skip rfl (k_skip (d_2 rfl (by kernel_rfl)) (k_skip (d_3 rfl (by kernel_rfl)) (k_take rfl (k_ret (v := .val (goodP (strI (x * y)))) (k_call (vs := [I (x * y)]) (k_es1 (k_bin rfl rfl hm)) h))))))
theorem d_zero {op : List Nat} (ho : op = [47] ∨ op = [37]) (ok : okS op = true) : fin (evSs Φ 1000 f_law_due.body (dSt op x 0)) = some (.ok (.val (.tuple [.int 1, .str divMsg, .tuple divEc]))) := by
  refine k_take (d_1 ok ?_) (k_take rfl (k_ret (v := .val (.tuple [.int 1, .str divMsg, .tuple divEc])) (by kernel_rfl)))
  rcases ho with rfl | rfl <;> kernel_rfl
theorem d_div {q : Int} (h0 : ¬ y = 0) (hq : Φ 38 [I x, I y] = some (.ok (I q))) (h : Φ 36 [I q] = goodR q) : fin (evSs Φ 1000 f_law_due.body (dSt [47] x y)) = goodR q :=
  k_take (d_1 rfl (by kernel_rfl)) (k_skip (dF h0) (k_set (v := I q) (k_call (vs := [I x, I y]) rfl hq) rfl (k_ret (v := .val (goodP (strI q))) (k_call (vs := [I q]) (k_es1 (k_ifT rfl rfl)) h))))
theorem d_mod {q : Int} (h0 : ¬ y = 0) (hq : Φ 38 [I x, I y] = some (.ok (I q))) (hm : binop .Mult (I q) (I y) = some (I (q * y))) (h : Φ 36 [I (x - q * y)] = goodR (x - q * y)) : fin (evSs Φ 1000 f_law_due.body (dSt [37] x y)) = goodR (x - q * y) :=
  k_take (d_1 rfl (by kernel_rfl)) (k_skip (dF h0) (k_set (v := I q) (k_call (vs := [I x, I y]) rfl hq) rfl (k_ret (v := .val (goodP (strI (x - q * y)))) (k_call (vs := [I (x - q * y)]) (k_es1 (k_ifF rfl (k_bin (u := I x) (w := I (q * y)) rfl (k_bin (u := I q) (w := I y) rfl rfl hm) rfl))) h))))
theorem k_retV {σ : Store} {e : CE} {rest : List CS} {p : PyData} (h : evE Φ e σ = some (.ok (.val p))) : fin (evSs Φ 1000 (.ret e :: rest) σ) = some (.ok (.val p)) := k_ret h
theorem due_is {r : Option (Out TV)} (hs : AS r) : ∃ p, dueM r = some (.ok (.val p)) := by
  rcases hs with ⟨v, q, _⟩ | ⟨t, ec, q, _⟩ <;> subst q <;> exact ⟨_, rfl⟩
theorem d_pow {r : Option (Out TV)} (hs : AS r) (h : Φ 39 [I x, I y] = dueM r) : fin (evSs Φ 1000 f_law_due.body (dSt [42, 42] x y)) = dueM r := by
  obtain ⟨p, hp⟩ := due_is hs
  have h := h.trans hp
  rw [hp]
  exact k_skip (d_1 rfl (by kernel_rfl)) (k_take rfl (k_retV (k_call (vs := [I x, I y]) rfl h)))
theorem d_sh {r : Option (Out TV)} {op : List Nat} (ho : op = [60, 60] ∨ op = [62, 62]) (hs : AS r) (h : Φ 40 [S op, I x, I y] = dueM r) : fin (evSs Φ 1000 f_law_due.body (dSt op x y)) = dueM r := by
  obtain ⟨p, hp⟩ := due_is hs
  have h := h.trans hp
  rw [hp]
  rcases ho with rfl | rfl <;> exact k_skip (d_1 rfl (by kernel_rfl)) (k_skip rfl (k_take (d_2 rfl (by kernel_rfl)) (k_retV (k_call (vs := [S _, I x, I y]) rfl h))))
theorem d_bit {op : Nat} {v : Int} (ho : op = 38 ∨ op = 124 ∨ op = 94) (hb : Φ 42 [S [op], I x, I y] = some (.ok (I v))) (h : Φ 36 [I v] = goodR v) : fin (evSs Φ 1000 f_law_due.body (dSt [op] x y)) = goodR v := by
  rcases ho with rfl | rfl | rfl <;> exact k_skip (d_1 rfl (by kernel_rfl)) (k_skip rfl (k_skip (d_2 rfl (by kernel_rfl)) (k_take (d_3 rfl (by kernel_rfl)) (k_retV (k_call (vs := [I v]) (k_es1 (k_call (vs := [S _, I x, I y]) rfl hb)) h)))))
end

noncomputable def AD (op : List Nat) (x y : Int) : Prop := ∃ r, AS r ∧ ∀ d, evCall tbl 1000 (d + 4) 25 [S op, I x, I y] = r ∧ evCall tbl 1000 (d + 4) 43 [S op, I x, I y] = dueM r
theorem AD.of {op : List Nat} {x y : Int} {r : Option (Out TV)} (ha : AS r) (h : ∀ d, fin (evSs (evCall tbl 1000 (d + 3)) 1000 f_arithmetic.body (aSt op x y)) = r ∧ fin (evSs (evCall tbl 1000 (d + 3)) 1000 f_law_due.body (dSt op x y)) = dueM r) : AD op x y :=
  ⟨r, ha, fun d => ⟨(ev_fn (i := 25) (c := f_arithmetic) rfl (by decide) rfl rfl).trans (h d).1, (ev_fn (i := 43) (c := f_law_due) rfl (by decide) rfl rfl).trans (h d).2⟩⟩
theorem AD.val {op : List Nat} {x y v : Int} (hT : inTop v = true) (h1 : ∀ d, fin (evSs (evCall tbl 1000 (d + 3)) 1000 f_arithmetic.body (aSt op x y)) = some (.ok (I v))) (h2 : ∀ d, evCall tbl 1000 (d + 3) 36 [I v] = goodR v → fin (evSs (evCall tbl 1000 (d + 3)) 1000 f_law_due.body (dSt op x y)) = goodR v) : AD op x y :=
  .of (AS.ok hT) fun d => ⟨h1 d, h2 d (ev_goodI (d + 2) hT)⟩
theorem ev_divX (d : Nat) : evCall tbl 1000 (d + 2) 20 [I 0] = some (.exc divMsg (.tuple divEc)) :=
  (ev_fn (i := 20) (c := f_need_divisor) rfl (by decide) rfl rfl).trans (k_take rfl (k_raise (k_call (vs := [.val (.str divMsg), .val (.tuple divEc)]) (by kernel_rfl) (err2' d divMsg rfl))))
theorem ad_quot {x y : Int} (hx : x.natAbs ≤ 2 ^ 66) (hy : y.natAbs ≤ 2 ^ 66) : AD [47] x y ∧ AD [37] x y := by
  have hx8 : x.natAbs ≤ 2 ^ 68 := Nat.le_trans hx (by decide)
  have hy8 : y.natAbs ≤ 2 ^ 68 := Nat.le_trans hy (by decide)
  have hyT : inTop y = true := top_of hy (by decide)
  by_cases h0 : y = 0
  · subst h0
    have he : AS (some (.exc divMsg (.tuple divEc))) := AS.err (by decide +kernel) (by decide +kernel)
    exact ⟨.of he fun d => ⟨a_div0 (ev_divX (d + 1)), d_zero (.inl rfl) rfl⟩, .of he fun d => ⟨a_mod0 (ev_divX (d + 1)), d_zero (.inr rfl) rfl⟩⟩
  · have hq : (x.fdiv y).natAbs ≤ 2 ^ 67 := Nat.le_trans (fdiv_le x y) (Nat.le_trans (Nat.add_le_add_right hx 1) (by decide))
    have hTq : inTop (x.fdiv y) = true := top_of hq (by decide)
    have hp : (x.fdiv y * y).natAbs ≤ 2 ^ 67 * 2 ^ 66 := by rw [Int.natAbs_mul]; exact Nat.mul_le_mul hq hy
    have hr : x - x.fdiv y * y = x.fmod y := by rw [Int.fmod_def, Int.mul_comm]
    have hT : inTop (x.fmod y) = true := by
      refine top_of (k := 68 + 68) ?_ (by decide)
      rw [← hr]
      exact Nat.le_trans (Int.natAbs_sub_le _ _) (Nat.le_trans (Nat.add_le_add hx hp) (by decide))
    refine ⟨.val hTq (fun d => a_div (ev_div0 (d + 2) y h0) (div_I h0 hyT)) fun d => d_div h0 (ev_quotient (d + 2) x y hx8 hy8 h0), .val hT (fun d => a_mod (ev_div0 (d + 2) y h0) (mod_I h0)) fun d h => ?_⟩
    rw [← hr] at *
    exact d_mod h0 (ev_quotient (d + 2) x y hx8 hy8 h0) (mul_I hTq hyT) h
theorem ad_rest {x y : Int} (hx : x.natAbs ≤ 2 ^ 66) (hy : y.natAbs ≤ 2 ^ 66) : AD [43] x y ∧ AD [45] x y ∧ AD [42] x y := by
  have hxT : inTop x = true := top_of hx (by decide)
  have hyT : inTop y = true := top_of hy (by decide)
  refine ⟨.val (v := x + y) (top_of (k := 67) ?_ (by decide)) (fun d => a_add) fun d => d_lin (.inl rfl) rfl, .val (v := x - y) (top_of (k := 67) ?_ (by decide)) (fun d => a_sub) fun d => d_lin (.inr rfl) rfl,
    .val (v := x * y) (top_of (k := 66 + 66) ?_ (by decide)) (fun d => a_mul (mul_I hxT hyT)) fun d => d_mul (mul_I hxT hyT)⟩
  · exact Nat.le_trans (Int.natAbs_add_le _ _) (Nat.le_trans (Nat.add_le_add hx hy) (by decide))
  · exact Nat.le_trans (Int.natAbs_sub_le _ _) (Nat.le_trans (Nat.add_le_add hx hy) (by decide))
  · rw [Int.natAbs_mul, Nat.pow_add]; exact Nat.mul_le_mul hx hy
theorem ad_bit {op : Nat} {x y : Int} (ho : op = 38 ∨ op = 124 ∨ op = 94) (hx : x.natAbs ≤ 2 ^ 66) (hy : y.natAbs ≤ 2 ^ 66) : AD [op] x y :=
  .val (bitF_top hx hy) (fun d => a_bit ho) fun d => d_bit ho (ev_bits (d + 1) ho hx hy)
theorem ad_pow {x y : Int} (hx : x.natAbs ≤ 2 ^ 66) (hk : y < 25 ∨ 268435456 ≤ y) : AD [42, 42] x y := by
  obtain ⟨r, hs, hv⟩ := pow_both hx hk
  exact .of hs fun d => ⟨a_pow hs (hv (d + 1)).1, d_pow hs (hv (d + 1)).2⟩
theorem ad_shl {x y : Int} (hx : x.natAbs ≤ 2 ^ 66) (hk : y ≤ 70 ∨ 2147483648 ≤ y) : AD [60, 60] x y := by
  obtain ⟨r, hs, hv⟩ := shl_both hx hk
  exact .of hs fun d => ⟨a_shl hs (hv d).1, d_sh (.inl rfl) hs (hv d).2⟩
theorem ad_shr {x y : Int} (hx : x.natAbs ≤ 2 ^ 66) : AD [62, 62] x y := by
  obtain ⟨r, hs, hv⟩ := shr_both (y := y) hx
  exact .of hs fun d => ⟨a_shr hs (hv d).1, d_sh (.inr rfl) hs (hv d).2⟩
theorem arith_due {op : List Nat} {x y : Int} (ho : op ∈ opsL) (hk : KeptOp op y) (hx : x.natAbs ≤ 2 ^ 66) (hy : y.natAbs ≤ 2 ^ 66) :
    ∃ r, AS r ∧ ∀ d, evCall tbl 1000 (d + 4) 25 [S op, I x, I y] = r ∧ evCall tbl 1000 (d + 4) 43 [S op, I x, I y] = dueM r := by
  show AD op x y
  unfold opsL at ho
  simp only [List.mem_cons, List.mem_nil_iff, or_false] at ho
  rcases ho with rfl | rfl | rfl | rfl | rfl | rfl | rfl | rfl | rfl | rfl | rfl
  · exact (ad_rest hx hy).1
  · exact (ad_rest hx hy).2.1
  · exact (ad_rest hx hy).2.2
  · exact (ad_quot hx hy).1
  · exact (ad_quot hx hy).2
  · exact ad_pow hx (hk.1 rfl)
  · exact ad_shl hx (hk.2 rfl)
  · exact ad_shr hx
  · exact ad_bit (.inl rfl) hx hy
  · exact ad_bit (.inr (.inl rfl)) hx hy
  · exact ad_bit (.inr (.inr rfl)) hx hy
end NP
end
section
open PySem PySem.Calls PyProof.Rows PySem.W PySem.Spec
set_option maxRecDepth 100000
namespace NP

section
variable {Φ : Nat → List TV → Option (Out TV)} {N : Nat} {σ : Store}
noncomputable def catchv : Option (Out (SO Store)) → Option (Out (SO Store))
  | some (.exc t ec) => some (.ok (.ret (.val (.tuple [.int 1, .str t, ec]))))
  | x => x
theorem s_catch (b : List CS) : evS Φ N (.catch b) σ = catchv (evSs Φ N b σ) := by
  rw [r_catch]
  unfold catchv
  cases evSs Φ N b σ with
  | none => rfl
  | some o => cases o <;> rfl
@[simp] theorem catch_exc (t : Str) (ec : PyData) : catchv (some (.exc t ec)) = some (.ok (.ret (.val (.tuple [.int 1, .str t, ec])))) := rfl
@[simp] theorem catch_ok (a : SO Store) : catchv (some (.ok a)) = some (.ok a) := rfl
end
noncomputable def failP (t : Str) (ec : PyData) : PyData := .tuple [.int 1, .str t, ec]
theorem told2_ok {d : Nat} {op : List Nat} {a b s : Str} (h : evCall tbl 1000 (d + 1) 29 [S op, .val (.str a), .val (.str b)] = some (.ok (.val (.str s)))) : evCall tbl 1000 (d + 2) 35 [S op, .val (.tuple [.str a, .str b])] = some (.ok (.val (goodP s))) := by
  rw [ev_fn (i := 35) (c := f_law_told) rfl (by decide) rfl rfl]
  have h0 : subop (.val (.tuple [.str a, .str b])) (I 0) = some (.val (.str a)) := rfl
  have h1 : subop (.val (.tuple [.str a, .str b])) (I 1) = some (.val (.str b)) := rfl
  have h2 : lenop (.val (.tuple [.str a, .str b])) = some (I 2) := rfl
  simp [f_law_told, s_catch, h0, h1, h2, h, okSize, goodP]
theorem told2_exc {d : Nat} {op : List Nat} {a b t : Str} {ec : PyData} (h : evCall tbl 1000 (d + 1) 29 [S op, .val (.str a), .val (.str b)] = some (.exc t ec)) : evCall tbl 1000 (d + 2) 35 [S op, .val (.tuple [.str a, .str b])] = some (.ok (.val (failP t ec))) := by
  rw [ev_fn (i := 35) (c := f_law_told) rfl (by decide) rfl rfl]
  have h0 : subop (.val (.tuple [.str a, .str b])) (I 0) = some (.val (.str a)) := rfl
  have h1 : subop (.val (.tuple [.str a, .str b])) (I 1) = some (.val (.str b)) := rfl
  have h2 : lenop (.val (.tuple [.str a, .str b])) = some (I 2) := rfl
  simp [f_law_told, s_catch, h0, h1, h2, h, failP]
theorem told1_ok {d : Nat} {op : List Nat} {a s : Str} (h : evCall tbl 1000 (d + 1) 19 [S op, .val (.str a)] = some (.ok (.val (.str s)))) : evCall tbl 1000 (d + 2) 35 [S op, .val (.tuple [.str a])] = some (.ok (.val (goodP s))) := by
  rw [ev_fn (i := 35) (c := f_law_told) rfl (by decide) rfl rfl]
  have h0 : subop (.val (.tuple [.str a])) (I 0) = some (.val (.str a)) := rfl
  have h2 : lenop (.val (.tuple [.str a])) = some (I 1) := rfl
  simp [f_law_told, s_catch, h0, h2, h, okSize, goodP]
theorem told1_exc {d : Nat} {op : List Nat} {a t : Str} {ec : PyData} (h : evCall tbl 1000 (d + 1) 19 [S op, .val (.str a)] = some (.exc t ec)) : evCall tbl 1000 (d + 2) 35 [S op, .val (.tuple [.str a])] = some (.ok (.val (failP t ec))) := by
  rw [ev_fn (i := 35) (c := f_law_told) rfl (by decide) rfl rfl]
  have h0 : subop (.val (.tuple [.str a])) (I 0) = some (.val (.str a)) := rfl
  have h2 : lenop (.val (.tuple [.str a])) = some (I 1) := rfl
  simp [f_law_told, s_catch, h0, h2, h, failP]

noncomputable def unfitP (op t : List Nat) : PyData := failP ⟨(faultMsg op t).toArray⟩ (.tuple (faultEc t))
theorem ev_unfit (d : Nat) {op t : List Nat} (ho : op.length ≤ 10) (ht : t.length ≤ 1000) : evCall tbl 1000 (d + 1) 37 [S op, S t] = some (.ok (.val (unfitP op t))) := by
  rw [ev_fn (i := 37) (c := f_law_unfit) rfl (by decide) rfl rfl]
  by_cases h : t = []
  · subst h
    have a1 := add_S (a := [99, 97, 110, 39, 116, 32, 117, 115, 101, 32, 101, 109, 112, 116, 121, 32, 115, 116, 114, 105, 110, 103, 32, 97, 115, 32, 111, 112, 101, 114, 97, 110, 100, 32, 111, 102, 32, 34]) (b := op) (by simp; omega)
    have a2 := add_S (a := [99, 97, 110, 39, 116, 32, 117, 115, 101, 32, 101, 109, 112, 116, 121, 32, 115, 116, 114, 105, 110, 103, 32, 97, 115, 32, 111, 112, 101, 114, 97, 110, 100, 32, 111, 102, 32, 34] ++ op) (b := [34]) (by simp; omega)
    have e : unfitP op [] = .tuple [.int 1, .str ⟨([99, 97, 110, 39, 116, 32, 117, 115, 101, 32, 101, 109, 112, 116, 121, 32, 115, 116, 114, 105, 110, 103, 32, 97, 115, 32, 111, 112, 101, 114, 97, 110, 100, 32, 111, 102, 32, 34] ++ op ++ [34]).toArray⟩, .tuple [.str ⟨#[65, 82, 73, 84, 72]⟩, .str ⟨#[68, 79, 77, 65, 73, 78]⟩, .str ⟨#[101, 109, 112, 116, 121, 32, 115, 116, 114, 105, 110, 103]⟩]] := rfl
    rw [e]
    show fin (evSs _ _ (_ :: _) [some (S op), some (S []), none]) = _
    simp only [ss_cons, s_ite, t_cmp, e_var, sget_succ, sget_zero, Option.map_some, view_val, lift_some, eb_ok, e_lit, show cmpop .Eq (S []) (.val (.str ⟨#[]⟩)) = some true from rfl, if_true, s_ret, e_tup, es_cons, e_bin, a1, a2, es_nil]
    rfl
  · have e : unfitP op t = .tuple [.int 1, .str ⟨([99, 97, 110, 39, 116, 32, 117, 115, 101, 32, 110, 111, 110, 45, 110, 117, 109, 101, 114, 105, 99, 32, 115, 116, 114, 105, 110, 103, 32, 34] ++ t ++ [34, 32, 97, 115, 32, 111, 112, 101, 114, 97, 110, 100, 32, 111, 102, 32, 34] ++ op ++ [34]).toArray⟩, .tuple [.str ⟨#[65, 82, 73, 84, 72]⟩, .str ⟨#[68, 79, 77, 65, 73, 78]⟩, .str ⟨#[110, 111, 110, 45, 110, 117, 109, 101, 114, 105, 99, 32, 115, 116, 114, 105, 110, 103]⟩]] := by
      unfold unfitP failP faultMsg faultEc shown whatOf
      rw [if_neg h, if_neg h]
      simp [cCant, cNon, cAs, cArith, cDomain]
    rw [e]
    have a1 := add_S (a := [99, 97, 110, 39, 116, 32, 117, 115, 101, 32, 110, 111, 110, 45, 110, 117, 109, 101, 114, 105, 99, 32, 115, 116, 114, 105, 110, 103, 32, 34]) (b := t) (by simp; omega)
    have a2 := add_S (a := [99, 97, 110, 39, 116, 32, 117, 115, 101, 32, 110, 111, 110, 45, 110, 117, 109, 101, 114, 105, 99, 32, 115, 116, 114, 105, 110, 103, 32, 34] ++ t) (b := [34, 32, 97, 115, 32, 111, 112, 101, 114, 97, 110, 100, 32, 111, 102, 32, 34]) (by simp; omega)
    have a3 := add_S (a := [99, 97, 110, 39, 116, 32, 117, 115, 101, 32, 110, 111, 110, 45, 110, 117, 109, 101, 114, 105, 99, 32, 115, 116, 114, 105, 110, 103, 32, 34] ++ t ++ [34, 32, 97, 115, 32, 111, 112, 101, 114, 97, 110, 100, 32, 111, 102, 32, 34]) (b := op) (by simp; omega)
    have a4 := add_S (a := [99, 97, 110, 39, 116, 32, 117, 115, 101, 32, 110, 111, 110, 45, 110, 117, 109, 101, 114, 105, 99, 32, 115, 116, 114, 105, 110, 103, 32, 34] ++ t ++ [34, 32, 97, 115, 32, 111, 112, 101, 114, 97, 110, 100, 32, 111, 102, 32, 34] ++ op) (b := [34]) (by simp; omega)
    have q : cmpop .Eq (S t) (.val (.str ⟨#[]⟩)) = some false := by
      have := eq_S t []
      rw [decide_eq_false h] at this
      exact this
    show fin (evSs _ _ (_ :: _ :: _) [some (S op), some (S t), none]) = _
    simp only [ss_cons, s_ite, t_cmp, e_var, sget_succ, sget_zero, Option.map_some, view_val, lift_some, eb_ok, e_lit, q, Bool.false_eq_true, if_false, ss_nil, sb_next, s_assign, e_bin, a1, a2, a3, a4, keep_str, if_true, sset_succ, sset_zero, s_ret, e_tup, es_cons, es_nil]
    rfl

theorem op_len {op : List Nat} (ho : op ∈ opsL) : op.length ≤ 10 := by
  have : ∀ l ∈ opsL, l.length ≤ 10 := by decide
  exact this op ho
noncomputable def binTail : List CS := [(.assign 4 (.call 18 [(.var 0), (.var 1)])),
  (.assign 5 (.call 18 [(.var 0), (.var 2)])),
  (.ret (.tostr (.call 25 [(.var 0), (.var 4), (.var 5)])))]
noncomputable def notCmp (op : List Nat) : Prop := op ∈ opsL
theorem bin_tail (d : Nat) {op a b : List Nat} (ho : op ∈ opsL) : evCall tbl 1000 (d + 1) 29 [S op, S a, S b] = fin (evSs (evCall tbl 1000 d) 1000 binTail [some (S op), some (S a), some (S b), none, none, none]) := by
  rw [ev_fn (i := 29) (c := f_binary) rfl (by decide) rfl rfl]
  have ok : okS op = true := by
    have : ∀ l ∈ opsL, okS l = true := by decide
    exact this op ho
  have i1 := in_tS (l := op) (xs := [.str ⟨#[61, 61]⟩, .str ⟨#[33, 61]⟩, .str ⟨#[60]⟩, .str ⟨#[60, 61]⟩, .str ⟨#[62]⟩, .str ⟨#[62, 61]⟩]) ok (by decide +kernel)
  have i2 := in_tS (l := op) (xs := [.str ⟨#[101, 113]⟩, .str ⟨#[110, 101]⟩, .str ⟨#[108, 116]⟩, .str ⟨#[108, 101]⟩, .str ⟨#[103, 116]⟩, .str ⟨#[103, 101]⟩]) ok (by decide +kernel)
  have i3 := in_tS (l := op) (xs := [.str ⟨#[105, 110]⟩, .str ⟨#[110, 105]⟩]) ok (by decide +kernel)
  have n1 : anyEq (.str ⟨op.toArray⟩) [.str ⟨#[61, 61]⟩, .str ⟨#[33, 61]⟩, .str ⟨#[60]⟩, .str ⟨#[60, 61]⟩, .str ⟨#[62]⟩, .str ⟨#[62, 61]⟩] = false := by
    have : ∀ l ∈ opsL, anyEq (.str ⟨l.toArray⟩) [.str ⟨#[61, 61]⟩, .str ⟨#[33, 61]⟩, .str ⟨#[60]⟩, .str ⟨#[60, 61]⟩, .str ⟨#[62]⟩, .str ⟨#[62, 61]⟩] = false := by decide +kernel
    exact this op ho
  have n2 : anyEq (.str ⟨op.toArray⟩) [.str ⟨#[101, 113]⟩, .str ⟨#[110, 101]⟩, .str ⟨#[108, 116]⟩, .str ⟨#[108, 101]⟩, .str ⟨#[103, 116]⟩, .str ⟨#[103, 101]⟩] = false := by
    have : ∀ l ∈ opsL, anyEq (.str ⟨l.toArray⟩) [.str ⟨#[101, 113]⟩, .str ⟨#[110, 101]⟩, .str ⟨#[108, 116]⟩, .str ⟨#[108, 101]⟩, .str ⟨#[103, 116]⟩, .str ⟨#[103, 101]⟩] = false := by decide +kernel
    exact this op ho
  have n3 : anyEq (.str ⟨op.toArray⟩) [.str ⟨#[105, 110]⟩, .str ⟨#[110, 105]⟩] = false := by
    have : ∀ l ∈ opsL, anyEq (.str ⟨l.toArray⟩) [.str ⟨#[105, 110]⟩, .str ⟨#[110, 105]⟩] = false := by decide +kernel
    exact this op ho
  rw [n1] at i1; rw [n2] at i2; rw [n3] at i3
  show fin (evSs _ _ (_ :: _ :: _ :: binTail) [some (S op), some (S a), some (S b), none, none, none]) = _
  generalize binTail = T
  simp [okSize, i1, i2, i3]

theorem bin_num {d : Nat} {op a b : List Nat} {x y : Int} {r : Option (Out TV)} (ho : op ∈ opsL) (ha : a.length ≤ 1000) (hb : b.length ≤ 1000) (wa : evCall tbl 1000 (d + 3) 5 [S a] = some (.ok (I x))) (wb : evCall tbl 1000 (d + 3) 5 [S b] = some (.ok (I y)))
    (hr : evCall tbl 1000 (d + 4) 25 [S op, I x, I y] = r) (hs : AS r) : evCall tbl 1000 (d + 6) 35 [S op, .val (.tuple [.str ⟨a.toArray⟩, .str ⟨b.toArray⟩])] = dueM r := by
  have oa := ev_operand (o := some x) (op_len ho) ha wa
  have ob := ev_operand (o := some y) (op_len ho) hb wb
  have key : evCall tbl 1000 (d + 5) 29 [S op, S a, S b] = fin (ebind (ebind r fun x => lift (strop x)) fun v => some (.ok (.ret (view v)))) := by
    rw [bin_tail (d + 4) ho]
    simp only [binTail, ss_cons, s_assign, e_call, es_cons, e_var, sget_succ, sget_zero, Option.map_some, view_val, lift_some, eb_ok, es_nil, oa, ob, keep_int, if_true, sb_next, sset_succ, sset_zero, s_ret, e_tostr, hr]
    rcases r with _ | ⟨v⟩ | ⟨t, e⟩
    · rfl
    · simp only [eb_ok]
      cases strop v <;> rfl
    · rfl
  rcases hs with ⟨v, h, hT⟩ | ⟨t, ec, h, _⟩
  · subst h
    rw [due_I]
    refine told2_ok (d := d + 4) ?_
    rw [key, eb_ok, str_I hT]
    rfl
  · subst h
    rw [due_exc]
    exact told2_exc (d := d + 4) key
theorem bin_left {d : Nat} {op a : List Nat} (b : List Nat) (ho : op ∈ opsL) (ha : a.length ≤ 1000) (wa : evCall tbl 1000 (d + 3) 5 [S a] = some (.ok (.val .none))) :
    evCall tbl 1000 (d + 6) 35 [S op, .val (.tuple [.str ⟨a.toArray⟩, .str ⟨b.toArray⟩])] = some (.ok (.val (unfitP op a))) := by
  have oa := ev_operand (o := none) (op_len ho) ha wa
  refine told2_exc (d := d + 4) ?_
  rw [bin_tail (d + 4) ho]
  simp [binTail, oa]
theorem bin_right {d : Nat} {op a b : List Nat} {x : Int} (ho : op ∈ opsL) (ha : a.length ≤ 1000) (hb : b.length ≤ 1000) (wa : evCall tbl 1000 (d + 3) 5 [S a] = some (.ok (I x))) (wb : evCall tbl 1000 (d + 3) 5 [S b] = some (.ok (.val .none))) :
    evCall tbl 1000 (d + 6) 35 [S op, .val (.tuple [.str ⟨a.toArray⟩, .str ⟨b.toArray⟩])] = some (.ok (.val (unfitP op b))) := by
  have oa := ev_operand (o := some x) (op_len ho) ha wa
  have ob := ev_operand (o := none) (op_len ho) hb wb
  refine told2_exc (d := d + 4) ?_
  rw [bin_tail (d + 4) ho]
  simp [binTail, oa, ob]

theorem kept_num {y g m : Int} (hy : y.natAbs ≤ 2 ^ 66) (hg : 0 < g) (h0 : 0 < m) (hm : m ≤ 100) : ∃ y', y' = (if g ≤ y.natAbs then y else if 0 < y then y.fmod m else -((-y).fmod m)) ∧ (y' < m ∨ g ≤ y') ∧ y'.natAbs ≤ 2 ^ 66 := by
  refine ⟨_, rfl, ?_⟩
  have a1 := Int.fmod_nonneg_of_pos y h0
  have a2 := Int.fmod_lt_of_pos y h0
  have b1 := Int.fmod_nonneg_of_pos (-y) h0
  have b2 := Int.fmod_lt_of_pos (-y) h0
  generalize y.fmod m = p at *
  generalize (-y).fmod m = q at *
  split
  · exact ⟨by omega, hy⟩
  · split <;> exact ⟨by omega, by omega⟩
noncomputable def keE : CE := .ife (.cmp .Eq (.var 0) (.lit (.str ⟨#[42, 42]⟩))) (.tup [(.bin .Pow (.lit (.int (2))) (.lit (.int (28)))), (.lit (.int (24)))]) (.tup [(.bin .Pow (.lit (.int (2))) (.lit (.int (31)))), (.lit (.int (70)))])
noncomputable def keT : CE := .cmp .NotIn (.var 0) (.tup [(.lit (.str ⟨#[42, 42]⟩)), (.lit (.str ⟨#[60, 60]⟩))])
section
variable {Φ : Nat → List TV → Option (Out TV)} {op : List Nat} {y g m : Int}
theorem ke_set (h : evE Φ keE [some (S op), some (I y), none, none] = some (.ok (.val (.tuple [.int g, .int m])))) : evS Φ 1000 (.assignT [2, 3] keE) [some (S op), some (I y), none, none] = some (.ok (.next [some (S op), some (I y), some (I g), some (I m)])) := by
  rw [s_assignT, h]; rfl
theorem ke_tup {n v k : Int} {σ : Store} (h : binop .Pow (.val (.int 2)) (.val (.int n)) = some (I v)) : evE Φ (.tup [(.bin .Pow (.lit (.int (2))) (.lit (.int n))), (.lit (.int k))]) σ = some (.ok (.val (.tuple [.int v, .int k]))) := by
  rw [e_tup, k_es2 (k_bin rfl rfl h) rfl]; rfl
theorem ke_run (h1 : evE Φ keE [some (S op), some (I y), none, none] = some (.ok (.val (.tuple [.int g, .int m])))) (h2 : evT Φ keT [some (S op), some (I y), some (I g), some (I m)] = some (.ok false)) (hm : 0 < m) :
    fin (evSs Φ 1000 f_law_kept.body [some (S op), some (I y), none, none]) = some (.ok (I (if g ≤ y.natAbs then y else if 0 < y then y.fmod m else -((-y).fmod m)))) := by
  have m0 : m ≠ 0 := Int.ne_of_gt hm
  have ge : evT Φ (.cmp .GtE (.abs (.var 1)) (.var 2)) [some (S op), some (I y), some (I g), some (I m)] = some (.ok (decide (g ≤ (y.natAbs : Int)))) := k_cmp (k_abs (i := y) rfl) (w := I g) rfl rfl
  refine k_do (ke_set h1) ?_
  by_cases hb : g ≤ (y.natAbs : Int)
  · rw [if_pos hb]
    exact k_take (k_orF h2 (k_orT (ge.trans (dT hb)))) (k_ret (v := I y) rfl)
  · rw [if_neg hb]
    refine k_skip (k_orF h2 (k_orF (ge.trans (dF hb)) rfl)) ?_
    by_cases hp : 0 < y
    · rw [if_pos hp]
      exact k_ret (v := I _) (k_ifT (dT hp) (k_bin rfl rfl (mod_I m0)))
    · rw [if_neg hp]
      exact k_ret (v := I _) (k_ifF (dF hp) (k_neg (k_bin (k_neg rfl) rfl (mod_I m0))))
end
theorem ev_kept (d : Nat) {op : List Nat} {y : Int} (ho : op ∈ opsL) (hy : y.natAbs ≤ 2 ^ 66) : ∃ y', evCall tbl 1000 (d + 1) 44 [S op, I y] = some (.ok (I y')) ∧ KeptOp op y' ∧ y'.natAbs ≤ 2 ^ 66 := by
  rw [ev_fn (i := 44) (c := f_law_kept) rfl (by decide) rfl rfl]
  have ok : okS op = true := by
    have : ∀ l ∈ opsL, okS l = true := by decide
    exact this op ho
  have i1 := notin_tS (l := op) (xs := [.str ⟨#[42, 42]⟩, .str ⟨#[60, 60]⟩]) ok (by decide +kernel)
  by_cases h1 : op = [42, 42]
  · subst h1
    obtain ⟨y', e, k1, k2⟩ := kept_num (g := 268435456) (m := 24) hy (by decide) (by decide) (by decide)
    exact ⟨y', e ▸ ke_run (k_ifT rfl (ke_tup p28)) (k_cmp (u := S [42, 42]) rfl rfl (i1.trans (by kernel_rfl))) (by decide), ⟨fun _ => k1.imp (fun q => Int.lt_trans q (by decide)) id, fun h => by cases h⟩, k2⟩
  · by_cases h2 : op = [60, 60]
    · subst h2
      obtain ⟨y', e, k1, k2⟩ := kept_num (g := 2147483648) (m := 70) hy (by decide) (by decide) (by decide)
      exact ⟨y', e ▸ ke_run (k_ifF rfl (ke_tup p31)) (k_cmp (u := S [60, 60]) rfl rfl (i1.trans (by kernel_rfl))) (by decide), ⟨fun h => (by cases h), fun _ => k1.imp (fun q => Int.le_of_lt q) id⟩, k2⟩
    · refine ⟨y, ?_, ⟨fun h => absurd h h1, fun h => absurd h h2⟩, hy⟩
      refine k_do (ke_set (k_ifF ((k_cmp (u := S op) rfl rfl (eq_S op [42, 42])).trans (dF h1)) (ke_tup p31))) (k_take (k_orT (k_cmp (u := S op) rfl rfl (i1.trans ?_))) (k_ret (v := I y) rfl))
      rw [show anyEq (.str ⟨op.toArray⟩) [.str ⟨#[42, 42]⟩, .str ⟨#[60, 60]⟩] = _ from anyEq_S op [42, 42] [.str ⟨#[60, 60]⟩], show anyEq (.str ⟨op.toArray⟩) [.str ⟨#[60, 60]⟩] = _ from anyEq_S op [60, 60] [], decide_eq_false h1, decide_eq_false h2]
      rfl
end NP
end
section
open PySem PySem.Calls PyProof.Rows PySem.W PySem.Spec
set_option maxRecDepth 100000
namespace NP

noncomputable def ordT (a b : List Nat) : Int := if a = b then 0 else if a < b then -1 else 1
theorem lt_S (a b : List Nat) : cmpop .Lt (S a) (S b) = some (decide (a < b)) := rfl
theorem ev_texto (d : Nat) (a b : List Nat) : evCall tbl 1000 (d + 1) 26 [S a, S b] = some (.ok (I (ordT a b))) := by
  rw [ev_fn (i := 26) (c := f_text_order) rfl (by decide) rfl rfl]
  unfold ordT
  by_cases h : a = b
  · subst h; simp [f_text_order]
  · by_cases h2 : a < b <;> simp [f_text_order, h, h2, lt_S]
theorem ordT_app (p A B : List Nat) : ordT (p ++ A) (p ++ B) = ordT A B := by
  unfold ordT
  have : (p ++ A < p ++ B) ↔ A < B := by
    induction p with
    | nil => exact Iff.rfl
    | cons c p ih =>
      rw [List.cons_append, List.cons_append, List.cons_lt_cons_iff]
      simp [ih]
  simp [this]
theorem ordT_cons {c c' : Nat} (h : c ≠ c') (A B : List Nat) : ordT (c :: A) (c' :: B) = if c < c' then -1 else 1 := by
  unfold ordT
  rw [if_neg (fun q => h (by injection q))]
  have : (c :: A < c' :: B) ↔ c < c' := by
    rw [List.cons_lt_cons_iff]
    exact ⟨fun q => q.elim id fun q => absurd q.1 h, .inl⟩
  by_cases h2 : c < c'
  · rw [if_pos (this.mpr h2), if_pos h2]
  · rw [if_neg (fun q => h2 (this.mp q)), if_neg h2]
theorem ordT_nil (B : List Nat) : ordT [] B = if B = [] then 0 else -1 := by
  cases B with
  | nil => rfl
  | cons b B => unfold ordT; simp
theorem ordT_nilr (c : Nat) (A : List Nat) : ordT (c :: A) [] = 1 := by
  unfold ordT; simp
theorem ordT_range (a b : List Nat) : ordT a b = 0 ∨ ordT a b = -1 ∨ ordT a b = 1 := by
  unfold ordT
  split
  · exact .inl rfl
  · split
    · exact .inr (.inl rfl)
    · exact .inr (.inr rfl)

noncomputable def loB : List CS := [
    (.ite (.cmp .NotEq (.sub (.var 3) (.var 7)) (.sub (.var 5) (.var 7))) [
      (.ret (.ife (.cmp .Lt (.ord (.sub (.var 3) (.var 7))) (.ord (.sub (.var 5) (.var 7)))) (.neg (.lit (.int (1)))) (.lit (.int (1)))))] [])]
theorem lo_loop (Φ : Nat → List TV → Option (Out TV)) (x0 x1 x2 x4 x6 : Option TV) (one two : List Nat) (h1 : one.length ≤ 1000) (h2 : two.length ≤ 1000) : ∀ (n : Nat) (p A B : List Nat) (x7 : Option TV), one = p ++ A → two = p ++ B → n = min A.length B.length →
    (forP (fun d σ => evSs Φ 1000 loB (sset σ 7 (.val d))) ((List.range' p.length n).map fun (i : Nat) => PyData.int (i : Int)) [x0, x1, x2, some (S one), x4, some (S two), x6, x7] = some (.ok (.ret (I (ordT one two))))) ∨
    (∃ x7', forP (fun d σ => evSs Φ 1000 loB (sset σ 7 (.val d))) ((List.range' p.length n).map fun (i : Nat) => PyData.int (i : Int)) [x0, x1, x2, some (S one), x4, some (S two), x6, x7] = some (.ok (.next [x0, x1, x2, some (S one), x4, some (S two), x6, x7'])) ∧
      ordT one two = if one.length = two.length then 0 else if one.length < two.length then -1 else 1) := by
  intro n
  induction n with
  | zero =>
    intro p A B x7 e1 e2 hn
    right
    refine ⟨x7, rfl, ?_⟩
    rw [e1, e2, ordT_app, List.length_append, List.length_append]
    cases A with
    | nil =>
      rw [ordT_nil]
      cases B with
      | nil => simp
      | cons b B => simp
    | cons a A =>
      cases B with
      | nil => rw [ordT_nilr]; simp
      | cons b B => simp at hn
  | succ n ih =>
    intro p A B x7 e1 e2 hn
    cases A with
    | nil => simp at hn
    | cons c A =>
    cases B with
    | nil => simp at hn
    | cons c' B =>
    have g1 : subop (S one) (I (p.length : Nat)) = some (S [c]) := by
      rw [sub_Sn (by omega), e1, List.getElem?_append_right (Nat.le_refl _), Nat.sub_self]; rfl
    have g2 : subop (S two) (I (p.length : Nat)) = some (S [c']) := by
      rw [sub_Sn (by omega), e2, List.getElem?_append_right (Nat.le_refl _), Nat.sub_self]; rfl
    rw [List.range'_succ, List.map_cons, for_cons]
    by_cases hc : c = c'
    · subst hc
      have e : evSs Φ 1000 loB (sset [x0, x1, x2, some (S one), x4, some (S two), x6, x7] 7 (.val (.int (p.length : Nat)))) = some (.ok (.next [x0, x1, x2, some (S one), x4, some (S two), x6, some (.val (.int (p.length : Nat)))])) := by
        simp [loB, g1, g2]
      rw [e, sb_next]
      have hl : (p ++ [c]).length = p.length + 1 := by simp
      have := ih (p ++ [c]) A B (some (.val (.int (p.length : Nat)))) (by simp [e1]) (by simp [e2]) (by simp at hn; omega)
      rw [hl] at this
      exact this
    · left
      have e : evSs Φ 1000 loB (sset [x0, x1, x2, some (S one), x4, some (S two), x6, x7] 7 (.val (.int (p.length : Nat)))) = some (.ok (.ret (I (ordT one two)))) := by
        rw [e1, e2, ordT_app, ordT_cons hc, ← e1, ← e2]
        by_cases hl : c < c' <;> simp [loB, g1, g2, hc, hl]
      rw [e]; rfl

noncomputable def optD : Option Int → PyData
  | some v => .int v
  | none => .none
noncomputable def cmpI (x y : Int) : Int := if x = y then 0 else if x < y then -1 else 1
noncomputable def ordV (w : Bool) (a : List Nat) (oa : Option Int) (b : List Nat) (ob : Option Int) : Int := match w, oa, ob with
  | true, some x, some y => cmpI x y
  | _, _, _ => ordT a b
theorem ordV_range (w : Bool) (a : List Nat) (oa : Option Int) (b : List Nat) (ob : Option Int) : ordV w a oa b ob = 0 ∨ ordV w a oa b ob = -1 ∨ ordV w a oa b ob = 1 := by
  have h2 : ∀ x y, cmpI x y = 0 ∨ cmpI x y = -1 ∨ cmpI x y = 1 := fun x y => by
    unfold cmpI
    split
    · exact .inl rfl
    · split
      · exact .inr (.inl rfl)
      · exact .inr (.inr rfl)
  unfold ordV
  split
  · exact h2 _ _
  · exact ordT_range _ _
@[simp] theorem isnot_optD (o : Option Int) : cmpop .IsNot (.val (optD o)) (.val .none) = some o.isSome := by cases o <;> rfl
theorem min_I (a b : Int) : minop (I a) (I b) = some (I (if b < a then b else a)) := rfl
noncomputable abbrev oSt (a b : List Nat) (oa ob : Option Int) (w : Bool) (x7 : Option TV) : Store := [some (.val (.tuple [.str ⟨a.toArray⟩, optD oa])), some (.val (.tuple [.str ⟨b.toArray⟩, optD ob])), some (.val (.bool w)), some (S a), some (.val (optD oa)), some (S b), some (.val (optD ob)), x7]
section
variable {Φ : Nat → List TV → Option (Out TV)} {a b : List Nat} {oa ob : Option Int} {w : Bool}
theorem o_set (a b : List Nat) (oa ob : Option Int) {cs : List CS} {R : Option (Out TV)} (k : fin (evSs Φ 1000 cs (oSt a b oa ob w none)) = R) : fin (evSs Φ 1000 (.assignT [3, 4] (.var 0) :: .assignT [5, 6] (.var 1) :: cs) [some (.val (.tuple [.str ⟨a.toArray⟩, optD oa])), some (.val (.tuple [.str ⟨b.toArray⟩, optD ob])), some (.val (.bool w)), none, none, none, none, none]) = R := k
theorem o_test : evT Φ (.boolop true [(.var 2), (.cmp .IsNot (.var 4) (.lit .none)), (.cmp .IsNot (.var 6) (.lit .none))]) (oSt a b oa ob w none) = some (.ok (decide (w = true ∧ oa.isSome = true ∧ ob.isSome = true))) := by
  have t2 : evT Φ (.var 2) (oSt a b oa ob w none) = some (.ok w) := rfl
  have t4 : evT Φ (.cmp .IsNot (.var 4) (.lit .none)) (oSt a b oa ob w none) = some (.ok oa.isSome) := k_cmp (u := .val (optD oa)) rfl rfl (isnot_optD oa)
  have t6 : evT Φ (.cmp .IsNot (.var 6) (.lit .none)) (oSt a b oa ob w none) = some (.ok ob.isSome) := k_cmp (u := .val (optD ob)) rfl rfl (isnot_optD ob)
  rw [t_bool, ts_and, t2, eb_ok, ts_and, t4, eb_ok, ts_and, t6, eb_ok, ts_nil]
  generalize oa.isSome = p
  generalize ob.isSome = q
  cases w <;> cases p <;> cases q <;> rfl
theorem o_num {x y : Int} : evE Φ (.ife (.cmp .Eq (.var 4) (.var 6)) (.lit (.int (0))) (.ife (.cmp .Lt (.var 4) (.var 6)) (.neg (.lit (.int (1)))) (.lit (.int (1))))) (oSt a b (some x) (some y) w none) = some (.ok (I (cmpI x y))) := by
  unfold cmpI
  by_cases q1 : x = y
  · rw [if_pos q1]; exact k_ifT (dT q1) rfl
  · rw [if_neg q1]
    by_cases q2 : x < y
    · rw [if_pos q2]; exact k_ifF (dF q1) (k_ifT (dT q2) rfl)
    · rw [if_neg q2]; exact k_ifF (dF q1) (k_ifF (dF q2) rfl)
end
theorem ev_order (d : Nat) (w : Bool) {a b : List Nat} (oa ob : Option Int) (ha : a.length ≤ 1000) (hb : b.length ≤ 1000) :
    evCall tbl 1000 (d + 1) 45 [.val (.tuple [.str ⟨a.toArray⟩, optD oa]), .val (.tuple [.str ⟨b.toArray⟩, optD ob]), .val (.bool w)] = some (.ok (I (ordV w a oa b ob))) := by
  rw [ev_fn (i := 45) (c := f_law_order) rfl (by decide) rfl rfl]
  generalize hΦ : evCall tbl 1000 d = Φ
  clear hΦ
  by_cases hw : w = true ∧ oa.isSome = true ∧ ob.isSome = true
  · refine o_set a b oa ob (k_take (o_test.trans (dT hw)) ?_)
    obtain ⟨rfl, h1, h2⟩ := hw
    cases oa with
    | none => cases h1
    | some x =>
      cases ob with
      | none => cases h2
      | some y => exact k_ret (v := I _) o_num
  · have hv : ordV w a oa b ob = ordT a b := by
      unfold ordV
      split
      · exact absurd ⟨rfl, rfl, rfl⟩ hw
      · rfl
    rw [hv]
    refine o_set a b oa ob (k_skip (o_test.trans (dF hw)) ?_)
    let st (x7 : Option TV) : Store := [some (.val (.tuple [.str ⟨a.toArray⟩, optD oa])), some (.val (.tuple [.str ⟨b.toArray⟩, optD ob])), some (.val (.bool w)), some (S a), some (.val (optD oa)), some (S b), some (.val (optD ob)), x7]
    have la := len_S (l := a) (by omega)
    have lb := len_S (l := b) (by omega)
    have hmin : (if (b.length : Int) < (a.length : Int) then (b.length : Int) else (a.length : Int)) = ((min a.length b.length : Nat) : Int) := by
      split <;> omega
    have hrng : rngv (I ((min a.length b.length : Nat) : Int)) = some (.ok ((List.range (min a.length b.length)).map fun (i : Nat) => PyData.int (i : Int))) := by
      show (if _ then _ else _) = _
      rw [if_pos (by omega)]
      rfl
    have hfor : ∀ x7, evS Φ 1000 (.for1 7 (.rng (.min2 (.len (.var 3)) (.len (.var 5)))) loB) (st x7) = forP (fun d σ => evSs Φ 1000 loB (sset σ 7 (.val d))) ((List.range (min a.length b.length)).map fun (i : Nat) => PyData.int (i : Int)) (st x7) := by
      intro x7
      rw [s_for1, it_rng]
      simp only [st, e_min2, e_len, e_var, sget_succ, sget_zero, Option.map_some, view_val, lift_some, eb_ok, la, lb, min_I, hmin, hrng]
    show fin (evSs Φ 1000 ((.for1 7 (.rng (.min2 (.len (.var 3)) (.len (.var 5)))) loB) :: _) (st none)) = _
    rw [ss_cons, hfor]
    have := lo_loop Φ (some (.val (.tuple [.str ⟨a.toArray⟩, optD oa]))) (some (.val (.tuple [.str ⟨b.toArray⟩, optD ob]))) (some (.val (.bool w))) (some (.val (optD oa))) (some (.val (optD ob))) a b ha hb _ [] a b none rfl rfl rfl
    rw [show ([] : List Nat).length = 0 from rfl, ← List.range_eq_range'] at this
    rcases this with this | ⟨x7', this, hq⟩
    · rw [this]; rfl
    · rw [this, hq, sb_next]
      by_cases q1 : a.length = b.length
      · simp [la, lb, q1]
      · have q1' : ¬ (a.length : Int) = (b.length : Int) := by omega
        by_cases q2 : a.length < b.length <;> simp [la, lb, q1, q1', q2]

noncomputable def opsC : List (List Nat) := [[61, 61], [33, 61], [60], [60, 61], [62], [62, 61], [101, 113], [110, 101], [108, 116], [108, 101], [103, 116], [103, 101]]
noncomputable def opC (k : Nat) : List Nat := opsC.getD k []
noncomputable def relB (k : Nat) (o : Int) : Bool := match k with
  | 0 => decide (o = 0)
  | 1 => !decide (o = 0)
  | 2 => decide (o < 0)
  | 3 => decide (o ≤ 0)
  | 4 => decide (0 < o)
  | _ => decide (0 ≤ o)
theorem twelve {k : Nat} (h : k < 12) : k = 0 ∨ k = 1 ∨ k = 2 ∨ k = 3 ∨ k = 4 ∨ k = 5 ∨ k = 6 ∨ k = 7 ∨ k = 8 ∨ k = 9 ∨ k = 10 ∨ k = 11 := by
  revert k; decide
theorem ev_rel (d : Nat) {k : Nat} (hk : k < 12) (o : Int) : evCall tbl 1000 (d + 1) 28 [S (opC k), I o] = some (.ok (.val (.bool (relB (k % 6) o)))) := by
  rw [ev_fn (i := 28) (c := f_relation) rfl (by decide) rfl rfl]
  generalize evCall tbl 1000 d = Φ
  rcases twelve hk with rfl | rfl | rfl | rfl | rfl | rfl | rfl | rfl | rfl | rfl | rfl | rfl <;> kernel_rfl
theorem rel_sub (k : Nat) (x y : Int) : relB k (x - y) = relB k (cmpI x y) := by
  have e : cmpI x y = 0 ∧ x - y = 0 ∨ cmpI x y = -1 ∧ x - y < 0 ∨ cmpI x y = 1 ∧ 0 < x - y := by
    unfold cmpI
    split
    · left; omega
    · split
      · right; left; omega
      · right; right; omega
  unfold relB
  rcases e with ⟨e1, e2⟩ | ⟨e1, e2⟩ | ⟨e1, e2⟩ <;> rw [e1] <;> split <;> first | (rw [decide_eq_decide]; omega) | (congr 1; rw [decide_eq_decide]; omega)
noncomputable def bitL (b : Bool) : List Nat := if b = true then [49] else [48]
theorem ev_ordof {d : Nat} {a b : List Nat} {oa ob : Option Int} (wa : evCall tbl 1000 (d + 3) 5 [S a] = some (.ok (optI oa))) (wb : evCall tbl 1000 (d + 3) 5 [S b] = some (.ok (optI ob))) :
    ∃ o, evCall tbl 1000 (d + 4) 27 [S a, S b] = some (.ok (I o)) ∧ ∀ k, relB k o = relB k (ordV true a oa b ob) := by
  have ht := ev_texto (d + 2) a b
  rw [ev_fn (i := 27) (c := f_order_of) rfl (by decide) rfl rfl]
  cases oa with
  | none => exact ⟨ordT a b, by simp [f_order_of, wa, wb, ht], fun _ => rfl⟩
  | some x =>
    cases ob with
    | none => exact ⟨ordT a b, by simp [f_order_of, wa, wb, ht], fun _ => rfl⟩
    | some y =>
      have wa : evCall tbl 1000 (d + 3) 5 [S a] = some (.ok (I x)) := wa
      have wb : evCall tbl 1000 (d + 3) 5 [S b] = some (.ok (I y)) := wb
      exact ⟨x - y, by simp [f_order_of, wa, wb], fun k => rel_sub k x y⟩
theorem told_cmp {d k : Nat} (hk : k < 12) {a b : List Nat} {oa ob : Option Int} (wa : evCall tbl 1000 (d + 3) 5 [S a] = some (.ok (optI oa))) (wb : evCall tbl 1000 (d + 3) 5 [S b] = some (.ok (optI ob))) :
    evCall tbl 1000 (d + 6) 35 [S (opC k), .val (.tuple [.str ⟨a.toArray⟩, .str ⟨b.toArray⟩])] = some (.ok (.val (goodP ⟨(bitL (relB (k % 6) (ordV (decide (k < 6)) a oa b ob))).toArray⟩))) := by
  refine told2_ok (d := d + 4) ?_
  rw [ev_fn (i := 29) (c := f_binary) rfl (by decide) rfl rfl]
  obtain ⟨o, h1, h2⟩ := ev_ordof wa wb
  have ht := ev_texto (d + 3) a b
  have r1 := ev_rel (d + 3) hk o
  have r2 := ev_rel (d + 3) hk (ordT a b)
  have x1 := ev_textof (d + 3) (relB (k % 6) o)
  have x2 := ev_textof (d + 3) (relB (k % 6) (ordT a b))
  have ok : okS (opC k) = true := by
    have : ∀ k : Fin 12, okS (opC k.val) = true := by decide
    exact this ⟨k, hk⟩
  have i1 := in_tS (l := opC k) (xs := [.str ⟨#[61, 61]⟩, .str ⟨#[33, 61]⟩, .str ⟨#[60]⟩, .str ⟨#[60, 61]⟩, .str ⟨#[62]⟩, .str ⟨#[62, 61]⟩]) ok (by decide +kernel)
  have i2 := in_tS (l := opC k) (xs := [.str ⟨#[101, 113]⟩, .str ⟨#[110, 101]⟩, .str ⟨#[108, 116]⟩, .str ⟨#[108, 101]⟩, .str ⟨#[103, 116]⟩, .str ⟨#[103, 101]⟩]) ok (by decide +kernel)
  by_cases hk6 : k < 6
  · have n1 : anyEq (.str ⟨(opC k).toArray⟩) [.str ⟨#[61, 61]⟩, .str ⟨#[33, 61]⟩, .str ⟨#[60]⟩, .str ⟨#[60, 61]⟩, .str ⟨#[62]⟩, .str ⟨#[62, 61]⟩] = true := by
      have : ∀ k : Fin 6, anyEq (.str ⟨(opC k.val).toArray⟩) [.str ⟨#[61, 61]⟩, .str ⟨#[33, 61]⟩, .str ⟨#[60]⟩, .str ⟨#[60, 61]⟩, .str ⟨#[62]⟩, .str ⟨#[62, 61]⟩] = true := by decide +kernel
      exact this ⟨k, hk6⟩
    rw [n1] at i1
    rw [decide_eq_true hk6, ← h2]
    simp [f_binary, okSize, i1, h1, r1, x1, bitL]
  · have n1 : anyEq (.str ⟨(opC k).toArray⟩) [.str ⟨#[61, 61]⟩, .str ⟨#[33, 61]⟩, .str ⟨#[60]⟩, .str ⟨#[60, 61]⟩, .str ⟨#[62]⟩, .str ⟨#[62, 61]⟩] = false := by
      have : ∀ k : Fin 6, anyEq (.str ⟨(opC (k.val + 6)).toArray⟩) [.str ⟨#[61, 61]⟩, .str ⟨#[33, 61]⟩, .str ⟨#[60]⟩, .str ⟨#[60, 61]⟩, .str ⟨#[62]⟩, .str ⟨#[62, 61]⟩] = false := by decide +kernel
      have := this ⟨k - 6, by omega⟩
      simp only [show k - 6 + 6 = k by omega] at this
      exact this
    have n2 : anyEq (.str ⟨(opC k).toArray⟩) [.str ⟨#[101, 113]⟩, .str ⟨#[110, 101]⟩, .str ⟨#[108, 116]⟩, .str ⟨#[108, 101]⟩, .str ⟨#[103, 116]⟩, .str ⟨#[103, 101]⟩] = true := by
      have : ∀ k : Fin 6, anyEq (.str ⟨(opC (k.val + 6)).toArray⟩) [.str ⟨#[101, 113]⟩, .str ⟨#[110, 101]⟩, .str ⟨#[108, 116]⟩, .str ⟨#[108, 101]⟩, .str ⟨#[103, 116]⟩, .str ⟨#[103, 101]⟩] = true := by decide +kernel
      have := this ⟨k - 6, by omega⟩
      simp only [show k - 6 + 6 = k by omega] at this
      exact this
    rw [n1] at i1
    rw [n2] at i2
    rw [decide_eq_false hk6, show ordV false a oa b ob = ordT a b from rfl]
    simp [f_binary, okSize, i1, i2, ht, r2, x2, bitL]
noncomputable def ansC (k : Nat) : List Nat := [[48, 49, 48], [49, 48, 49], [49, 48, 48], [49, 49, 48], [48, 48, 49], [48, 49, 49]].getD k []
theorem ans_sub {k : Nat} (hk : k < 6) {o : Int} (ho : o = 0 ∨ o = -1 ∨ o = 1) : subop (S (ansC k)) (I (o + 1)) = some (S (bitL (relB k o))) := by
  have : k = 0 ∨ k = 1 ∨ k = 2 ∨ k = 3 ∨ k = 4 ∨ k = 5 := lt6 (by first | assumption | omega)
  rcases this with rfl | rfl | rfl | rfl | rfl | rfl <;> rcases ho with rfl | rfl | rfl <;> rfl
end NP
end
section
open PySem PySem.Calls PyProof.Rows PySem.W PySem.Spec
set_option maxRecDepth 100000
namespace NP

noncomputable def junkL : List (List Nat) := [[], [97, 98, 99], [49, 95, 48], [48, 120], [116, 82, 117, 101], [79, 70, 70], [110], [43], [49, 46, 53], [45, 32, 49], [1635]]
noncomputable def junk (j : Nat) : List Nat := junkL.getD j []
theorem eleven {k : Nat} (h : k < 11) : k = 0 ∨ k = 1 ∨ k = 2 ∨ k = 3 ∨ k = 4 ∨ k = 5 ∨ k = 6 ∨ k = 7 ∨ k = 8 ∨ k = 9 ∨ k = 10 := by
  revert k; decide
theorem junk_ok {j : Nat} (h : j < 11) : okS (junk j) = true ∧ (junk j).length ≤ 10 := by
  rcases eleven h with rfl | rfl | rfl | rfl | rfl | rfl | rfl | rfl | rfl | rfl | rfl <;> decide
theorem junk_whole {j : Nat} (h : j < 11) (d : Nat) : evCall tbl 1000 (d + 3) 5 [S (junk j)] = some (.ok (.val .none)) := by
  rcases eleven h with rfl | rfl | rfl | rfl | rfl | rfl | rfl | rfl | rfl | rfl | rfl <;> kernel_rfl
noncomputable def junkB (j : Nat) : Option Bool := if j = 4 then some true else if j = 5 ∨ j = 6 then some false else none
noncomputable def optB : Option Bool → TV
  | some b => .val (.bool b)
  | none => .val .none
theorem junk_bool {j : Nat} (h : j < 11) (d : Nat) : evCall tbl 1000 (d + 4) 6 [S (junk j)] = some (.ok (optB (junkB j))) := by
  rcases eleven h with rfl | rfl | rfl | rfl | rfl | rfl | rfl | rfl | rfl | rfl | rfl <;> kernel_rfl
theorem ev_junk (d : Nat) (n : Int) : ∃ j : Nat, j < 11 ∧ n.fmod 11 = (j : Int) ∧ evCall tbl 1000 (d + 1) 34 [I n] = some (.ok (S (junk j))) := by
  obtain ⟨j, h1, h2⟩ := fmod_nat n (m := 11) (by decide)
  refine ⟨j, h1, h2, ?_⟩
  rw [ev_fn (i := 34) (c := f_law_junk) rfl (by decide) rfl rfl]
  have m := mod_I (a := n) (b := 11) (by decide)
  rw [show n.fmod 11 = (j : Int) from h2] at m
  have hs : subop (.val (.tuple [.str ⟨#[]⟩, .str ⟨#[97, 98, 99]⟩, .str ⟨#[49, 95, 48]⟩, .str ⟨#[48, 120]⟩, .str ⟨#[116, 82, 117, 101]⟩, .str ⟨#[79, 70, 70]⟩, .str ⟨#[110]⟩, .str ⟨#[43]⟩, .str ⟨#[49, 46, 53]⟩, .str ⟨#[45, 32, 49]⟩, .str ⟨#[1635]⟩])) (I (j : Nat)) = some (S (junk j)) := by
    rcases eleven h1 with rfl | rfl | rfl | rfl | rfl | rfl | rfl | rfl | rfl | rfl | rfl <;> rfl
  simp [f_law_junk, okSize, m, hs]

noncomputable def uOp (k : Nat) : Nat := [45, 43, 126, 33].getD k 33
noncomputable def uVal (k : Nat) (x : Int) : Int := if k = 0 then -x else if k = 1 then x else if k = 2 then -x - 1 else if x = 0 then 1 else 0
theorem strI_01 : strI 0 = ⟨#[48]⟩ ∧ strI 1 = ⟨#[49]⟩ := by decide +kernel
@[simp] theorem is_bool (b : Bool) : cmpop .Is (.val (.bool b)) (.val .none) = some false := rfl
theorem ev_boolnum {d : Nat} {a : List Nat} {x : Int} (wa : evCall tbl 1000 (d + 3) 5 [S a] = some (.ok (I x))) : evCall tbl 1000 (d + 4) 6 [S a] = some (.ok (.val (.bool (!decide (x = 0))))) := by
  rw [ev_fn (i := 6) (c := f_bool_of) rfl (by decide) rfl rfl]
  simp [f_bool_of, wa]
noncomputable abbrev uSt (op a : List Nat) : Store := [some (S op), some (S a), none, none]
section
variable {Φ : Nat → List TV → Option (Out TV)} {a : List Nat} {x : Int}
theorem u_not {q : TV} {l : List Nat} (hq : cmpop .Is q (.val .none) = some false) (hk : keepable q = true) (ht : view q = q) (h1 : Φ 6 [S a] = some (.ok q)) {b : Bool} (hb : truth q = some b) (h2 : Φ 7 [.val (.bool (!b))] = some (.ok (S l))) : fin (evSs Φ 1000 f_unary.body (uSt [33] a)) = some (.ok (S l)) := by
  have ev : evE Φ (.var 2) (sset (uSt [33] a) 2 q) = some (.ok q) := by rw [e_var]; show lift (some (view q)) = _; rw [ht]; rfl
  refine k_take rfl (k_set (k_call (vs := [S a]) rfl h1) hk (k_skip (k_cmp ev rfl hq) (k_ret (v := S l) (k_call (vs := [.val (.bool (!b))]) (k_es1 ?_) h2))))
  rw [e_not, ev, eb_ok, hb]; rfl
theorem u_none {t : Str} {ec : PyData} (h1 : Φ 6 [S a] = some (.ok (.val .none))) (h2 : Φ 17 [S [33], S a] = some (.ok (.exc t ec))) : fin (evSs Φ 1000 f_unary.body (uSt [33] a)) = some (.exc t ec) :=
  k_take rfl (k_set (v := .val .none) (k_call (vs := [S a]) rfl h1) rfl (k_take rfl (k_raise (k_call (vs := [S [33], S a]) rfl h2))))
theorem u_minus (h1 : Φ 18 [S [45], S a] = some (.ok (I x))) {s : Str} (h2 : strop (I (-x)) = some (.val (.str s))) : fin (evSs Φ 1000 f_unary.body (uSt [45] a)) = some (.ok (.val (.str s))) :=
  k_skip rfl (k_set (v := I x) (k_call (vs := [S [45], S a]) rfl h1) rfl (k_take rfl (k_ret (v := .val (.str s)) (k_tostr (k_neg (i := x) rfl) h2))))
theorem u_inv (h1 : Φ 18 [S [126], S a] = some (.ok (I x))) {s : Str} (h2 : strop (I (Builtin.bitNot x)) = some (.val (.str s))) : fin (evSs Φ 1000 f_unary.body (uSt [126] a)) = some (.ok (.val (.str s))) :=
  k_skip rfl (k_set (v := I x) (k_call (vs := [S [126], S a]) rfl h1) rfl (k_skip rfl (k_take rfl (k_ret (v := .val (.str s)) (k_tostr (k_inv (i := x) rfl) h2)))))
theorem u_plus (h1 : Φ 18 [S [43], S a] = some (.ok (I x))) {s : Str} (h2 : strop (I x) = some (.val (.str s))) : fin (evSs Φ 1000 f_unary.body (uSt [43] a)) = some (.ok (.val (.str s))) :=
  k_skip rfl (k_set (v := I x) (k_call (vs := [S [43], S a]) rfl h1) rfl (k_skip rfl (k_skip rfl (k_take rfl (k_ret (v := .val (.str s)) (k_tostr (u := I x) rfl h2))))))
theorem u_exc {c : Nat} (hc : c = 45 ∨ c = 43 ∨ c = 126) {t : Str} {ec : PyData} (h1 : Φ 18 [S [c], S a] = some (.exc t ec)) : fin (evSs Φ 1000 f_unary.body (uSt [c] a)) = some (.exc t ec) := by
  rcases hc with rfl | rfl | rfl <;> exact k_skip rfl (k_setX (k_call (vs := [S _, S a]) rfl h1))
end
theorem un_num {d k : Nat} {a : List Nat} {x : Int} (hk : k < 4) (ha : a.length ≤ 1000) (wa : evCall tbl 1000 (d + 3) 5 [S a] = some (.ok (I x))) (hx : x.natAbs ≤ 2 ^ 66) :
    evCall tbl 1000 (d + 6) 35 [S [uOp k], .val (.tuple [.str ⟨a.toArray⟩])] = some (.ok (.val (goodP (strI (uVal k x))))) := by
  refine told1_ok (d := d + 4) ((ev_fn (i := 19) (c := f_unary) rfl (by decide) rfl rfl).trans ?_)
  have oa := ev_operand (op := [uOp k]) (o := some x) (Nat.le_add_left 1 9) ha wa
  rcases lt4 hk with rfl | rfl | rfl | rfl
  · exact u_minus oa (str_I (top_of (k := 66) (by rw [Int.natAbs_neg]; exact hx) (by decide)))
  · exact u_plus oa (str_I (top_of hx (by decide)))
  · have e : Builtin.bitNot x = -x - 1 := rfl
    exact u_inv oa (e ▸ str_I (top_of (k := 67) (by omega) (by decide)))
  · have ba := ev_boolnum wa
    have x1 := ev_textof (d + 3) (!(!decide (x = 0)))
    have := u_not rfl rfl rfl ba rfl x1
    rw [Bool.not_not] at this
    refine this.trans ?_
    by_cases h : x = 0
    · rw [decide_eq_true h, if_pos rfl, show uVal 3 x = 1 from if_pos h, strI_01.2]
    · rw [decide_eq_false h, if_neg (by decide), show uVal 3 x = 0 from if_neg h, strI_01.1]
theorem un_junk {d k j : Nat} (hk : k < 4) (hj : j < 11) (h3 : k = 3 → junkB j = none) :
    evCall tbl 1000 (d + 6) 35 [S [uOp k], .val (.tuple [.str ⟨(junk j).toArray⟩])] = some (.ok (.val (unfitP [uOp k] (junk j)))) := by
  refine told1_exc (d := d + 4) ((ev_fn (i := 19) (c := f_unary) rfl (by decide) rfl rfl).trans ?_)
  have hl : (junk j).length ≤ 1000 := Nat.le_trans (junk_ok hj).2 (by decide)
  have oa := ev_operand (op := [uOp k]) (o := none) (Nat.le_add_left 1 9) hl (junk_whole hj d)
  rcases lt4 hk with rfl | rfl | rfl | rfl
  · exact u_exc (.inl rfl) oa
  · exact u_exc (.inr (.inl rfl)) oa
  · exact u_exc (.inr (.inr rfl)) oa
  · have ba := junk_bool hj d
    rw [h3 rfl] at ba
    exact u_none ba (ev_fault (d + 2) [33] (junk j) (Nat.le_add_left 1 9) hl)
theorem un_bool {d j : Nat} {b : Bool} (hj : j < 11) (h3 : junkB j = some b) :
    evCall tbl 1000 (d + 6) 35 [S [33], .val (.tuple [.str ⟨(junk j).toArray⟩])] = some (.ok (.val (goodP (strI (if b = true then 0 else 1))))) := by
  refine told1_ok (d := d + 4) ((ev_fn (i := 19) (c := f_unary) rfl (by decide) rfl rfl).trans ?_)
  have ba := junk_bool hj d
  rw [h3] at ba
  have x1 := ev_textof (d + 3) (!b)
  refine (u_not rfl rfl rfl ba rfl x1).trans ?_
  cases b
  · exact congrArg (fun z => some (Out.ok (TV.val (.str z)))) strI_01.2.symm
  · exact congrArg (fun z => some (Out.ok (TV.val (.str z)))) strI_01.1.symm
end NP
end
section
open PySem PySem.Calls PyProof.Rows PySem.W PySem.Spec
set_option maxRecDepth 100000
namespace NP

theorem join_S (l : List Nat) : Str.join ⟨#[]⟩ (l.map fun c => (⟨#[c]⟩ : Str)) = ⟨l.toArray⟩ := by
  induction l with
  | nil => rfl
  | cons c r ih =>
    cases r with
    | nil => rfl
    | cons c' r =>
      show (⟨#[c]⟩ : Str) ++ ⟨#[]⟩ ++ Str.join ⟨#[]⟩ ((c' :: r).map fun c => (⟨#[c]⟩ : Str)) = _
      rw [ih]
      have := sAdd [c] (c' :: r)
      have h2 := sAdd [c] []
      exact (congrArg (· ++ (⟨(c' :: r).toArray⟩ : Str)) h2).trans this
noncomputable def onesP (l : List Nat) : List PyData := l.map fun c => .str ⟨#[c]⟩
theorem strsOf_ones (l : List Nat) : strsOf (onesP l) = some (l.map fun c => (⟨#[c]⟩ : Str)) := by
  induction l with
  | nil => rfl
  | cons c r ih =>
    show (strsOf (onesP r)).map _ = _
    rw [ih]; rfl
theorem joinop_ones {l : List Nat} (h : l.length ≤ 1000) : joinop (.val (.str ⟨#[]⟩)) (.val (.list (onesP l))) = some (S l) := by
  show (strsOf (onesP l)).bind _ = _
  rw [strsOf_ones]
  show (if _ then _ else _) = _
  have e : Txt.join ⟨#[]⟩ (l.map fun c => (⟨#[c]⟩ : Str)) = ⟨l.toArray⟩ := by
    show Builtin.Str.glued _ _ = _
    rw [StrLaws.glued_eq_join]
    exact join_S l
  have e2 : ((l.map fun c => (⟨#[c]⟩ : Str)).map (·.length)).sum = l.length := by
    rw [List.map_map]
    clear h e
    induction l with
    | nil => rfl
    | cons c r ih =>
      rw [List.map_cons, List.sum_cons, ih]
      show 1 + r.length = _
      simp; omega
  rw [e, e2, if_pos]
  show l.length + (l.map _).length * 0 ≤ strTop
  unfold strTop
  omega

section
variable {l : List Nat} (hl : l.length ≤ 900) (ok : okS l = true)
include hl in
theorem at_S {pre : List Nat} {c : Nat} {r : List Nat} (h : l = pre ++ c :: r) : subop (S l) (I (pre.length : Nat)) = some (S [c]) := by
  rw [sub_Sn (by omega), h, List.getElem?_append_right (Nat.le_refl _), Nat.sub_self]; rfl
include ok in
theorem ch_S {pre : List Nat} {c : Nat} {r : List Nat} (h : l = pre ++ c :: r) : isChar c = true := by
  rw [h] at ok
  simp [okS] at ok
  exact ok.2.1
include hl in
theorem len_l : lenop (S l) = some (I l.length) := len_S (by omega)

noncomputable def skT : CE := .boolop true [(.cmp .Lt (.var 1) (.len (.var 0))), (.call 1 [(.sub (.var 0) (.var 1))])]
noncomputable def skB : List CS := [(.aug .Add 1 (.lit (.int (1))))]
noncomputable def Stop (rest : List Nat) : Prop := rest = [] ∨ ∃ c r, rest = c :: r ∧ blankP c = false
include hl ok in
theorem sk_loop (d : Nat) : ∀ (sep pre rest : List Nat) (j : Nat), l = pre ++ (sep ++ rest) → (∀ c ∈ sep, blankP c = true) → Stop rest →
    loopP (evT (evCall tbl 1000 (d + 1)) skT) (evSs (evCall tbl 1000 (d + 1)) 1000 skB) (sep.length + 1 + j) [some (S l), some (I (pre.length : Nat))] = some (.ok (.next [some (S l), some (I ((pre.length + sep.length : Nat) : Int))])) := by
  intro sep
  have ll := len_l hl
  induction sep with
  | nil =>
    intro pre rest j h _ hs
    rw [show ([] : List Nat).length + 1 + j = j + 1 by simp; omega, loop_succ]
    have t : evT (evCall tbl 1000 (d + 1)) skT [some (S l), some (I (pre.length : Nat))] = some (.ok false) := by
      rcases hs with rfl | ⟨c, r, rfl, hb⟩
      · have : ¬ ((pre.length : Int) < (l.length : Int)) := by rw [h]; simp
        simp [skT, ll]
        omega
      · have h1 : pre.length < l.length := by rw [h]; simp
        have h2 := at_S hl (pre := pre) (c := c) (r := r) (by simpa using h)
        have h3 := ev_blank d c (ch_S ok (pre := pre) (c := c) (r := r) (by simpa using h))
        simp [skT, ll, h1, h2, h3, hb]
    rw [t]; rfl
  | cons c sep ih =>
    intro pre rest j h hb hs
    rw [show (c :: sep).length + 1 + j = (sep.length + 1 + j) + 1 by simp; omega, loop_succ]
    have h1 : pre.length < l.length := by rw [h]; simp
    have h2 := at_S hl (pre := pre) (c := c) (r := sep ++ rest) (by simpa using h)
    have h3 := ev_blank d c (ch_S ok (pre := pre) (c := c) (r := sep ++ rest) (by simpa using h))
    have t : evT (evCall tbl 1000 (d + 1)) skT [some (S l), some (I (pre.length : Nat))] = some (.ok true) := by
      simp [skT, ll, h1, h2, h3, hb c (by simp)]
    have b : evSs (evCall tbl 1000 (d + 1)) 1000 skB [some (S l), some (I (pre.length : Nat))] = some (.ok (.next [some (S l), some (I ((pre ++ [c]).length : Nat))])) := by
      unfold skB
      rw [aug1_add]
      simp
    rw [t, eb_ok, if_pos rfl, b, sb_next, ih (pre ++ [c]) rest j (by simp [h]) (fun x hx => hb x (by simp [hx])) hs]
    simp
    omega

noncomputable def Behind (post : List Nat) : Prop := post = [] ∨ ∃ c r, post = c :: r ∧ blankP c = true

noncomputable def baT : CE := .boolop true [(.cmp .Lt (.var 1) (.len (.var 0))), (.not (.call 1 [(.sub (.var 0) (.var 1))]))]
noncomputable def baB : List CS := [
    (.assign 3 (.sub (.var 0) (.var 1))),
    (.ite (.cmp .Eq (.var 3) (.lit (.str ⟨#[92]⟩))) [
      (.assignT [3, 1] (.call 10 [(.var 0), (.var 1)]))] [
      (.aug .Add 1 (.lit (.int (1))))]),
    (.append 2 (.var 3))]
include hl ok in
theorem ba_loop (d : Nat) : ∀ (it pre done post : List Nat) (x3 : Option TV) (j : Nat), l = pre ++ (it ++ post) → (∀ c ∈ it, blankP c = false ∧ c ≠ 92) → Behind post → done.length + it.length ≤ 900 →
    ∃ x3', loopP (evT (evCall tbl 1000 (d + 1)) baT) (evSs (evCall tbl 1000 (d + 1)) 1000 baB) (it.length + 1 + j) [some (S l), some (I (pre.length : Nat)), some (.own (onesP done)), x3] =
      some (.ok (.next [some (S l), some (I ((pre.length + it.length : Nat) : Int)), some (.own (onesP (done ++ it))), x3'])) := by
  intro it
  have ll := len_l hl
  induction it with
  | nil =>
    intro pre done post x3 j h _ hs _
    refine ⟨x3, ?_⟩
    rw [show ([] : List Nat).length + 1 + j = j + 1 by simp; omega, loop_succ]
    have t : evT (evCall tbl 1000 (d + 1)) baT [some (S l), some (I (pre.length : Nat)), some (.own (onesP done)), x3] = some (.ok false) := by
      rcases hs with rfl | ⟨c, r, rfl, hb⟩
      · have : ¬ ((pre.length : Int) < (l.length : Int)) := by rw [h]; simp
        simp [baT, ll]
        omega
      · have h1 : pre.length < l.length := by rw [h]; simp
        have h2 := at_S hl (pre := pre) (c := c) (r := r) (by simpa using h)
        have h3 := ev_blank d c (ch_S ok (pre := pre) (c := c) (r := r) (by simpa using h))
        simp [baT, ll, h1, h2, h3, hb]
    rw [t]; simp
  | cons c it ih =>
    intro pre done post x3 j h hb hs hn
    rw [show (c :: it).length + 1 + j = (it.length + 1 + j) + 1 by simp; omega, loop_succ]
    have h1 : pre.length < l.length := by rw [h]; simp
    have h2 := at_S hl (pre := pre) (c := c) (r := it ++ post) (by simpa using h)
    have h3 := ev_blank d c (ch_S ok (pre := pre) (c := c) (r := it ++ post) (by simpa using h))
    have hc := hb c (by simp)
    have t : evT (evCall tbl 1000 (d + 1)) baT [some (S l), some (I (pre.length : Nat)), some (.own (onesP done)), x3] = some (.ok true) := by
      simp [baT, ll, h1, h2, h3, hc.1]
    have hap : appv [some (S l), some (I ((pre ++ [c]).length : Nat)), some (.own (onesP done)), some (S [c])] 2 (onesP done) (S [c]) = some (.ok (.next [some (S l), some (I ((pre ++ [c]).length : Nat)), some (.own (onesP (done ++ [c]))), some (S [c])])) := by
      rw [appv_val rfl (by unfold onesP; simp at hn ⊢; omega)]
      simp [onesP]
    have b : evSs (evCall tbl 1000 (d + 1)) 1000 baB [some (S l), some (I (pre.length : Nat)), some (.own (onesP done)), x3] = some (.ok (.next [some (S l), some (I ((pre ++ [c]).length : Nat)), some (.own (onesP (done ++ [c]))), some (S [c])])) := by
      have e1 : evS (evCall tbl 1000 (d + 1)) 1000 (.assign 3 (.sub (.var 0) (.var 1))) [some (S l), some (I (pre.length : Nat)), some (.own (onesP done)), x3] = some (.ok (.next [some (S l), some (I (pre.length : Nat)), some (.own (onesP done)), some (S [c])])) := by
        simp [h2]
      have e2 : evS (evCall tbl 1000 (d + 1)) 1000 (.ite (.cmp .Eq (.var 3) (.lit (.str ⟨#[92]⟩))) [(.assignT [3, 1] (.call 10 [(.var 0), (.var 1)]))] [(.aug .Add 1 (.lit (.int (1))))]) [some (S l), some (I (pre.length : Nat)), some (.own (onesP done)), some (S [c])] = some (.ok (.next [some (S l), some (I ((pre ++ [c]).length : Nat)), some (.own (onesP done)), some (S [c])])) := by
        simp [hc.2, aug1_add']
      unfold baB
      rw [ss_cons, e1, sb_next, ss_cons, e2, sb_next, ss_cons, s_append (xs := onesP done) rfl]
      simp only [e_var, sget_succ, sget_zero, Option.map_some, view_val, lift_some, eb_ok, hap, sb_next, ss_nil]
    obtain ⟨x3', q⟩ := ih (pre ++ [c]) (done ++ [c]) post (some (S [c])) j (by simp [h]) (fun x hx => hb x (by simp [hx])) hs (by simp at hn ⊢; omega)
    refine ⟨x3', ?_⟩
    rw [t, eb_ok, if_pos rfl, b, sb_next, q]
    simp
    omega
include hl ok in
theorem ev_bare (d : Nat) {it pre post : List Nat} (h : l = pre ++ (it ++ post)) (hb : ∀ c ∈ it, blankP c = false ∧ c ≠ 92) (hs : Behind post) :
    evCall tbl 1000 (d + 2) 14 [S l, I (pre.length : Nat)] = some (.ok (.val (.tuple [.str ⟨it.toArray⟩, .int ((pre.length + it.length : Nat) : Int)]))) := by
  rw [ev_fn (i := 14) (c := f_bare_element) rfl (by decide) rfl rfl]
  have hit : it.length ≤ 900 := by rw [h] at hl; simp at hl; omega
  obtain ⟨x3, q⟩ := ba_loop hl ok d it pre [] post none (999 - it.length) h hb hs (by simpa using hit)
  rw [show it.length + 1 + (999 - it.length) = 1000 by omega] at q
  have hloop : evS (evCall tbl 1000 (d + 1)) 1000 (.loop baT baB) [some (S l), some (I (pre.length : Nat)), some (.own (onesP [])), none] = _ := (s_loop _ _).trans q
  have hj := joinop_ones (l := it) (by omega)
  have s1 : evS (evCall tbl 1000 (d + 1)) 1000 (.assign 2 (.lst [])) [some (S l), some (I (pre.length : Nat)), none, none] = some (.ok (.next [some (S l), some (I (pre.length : Nat)), some (.own (onesP [])), none])) := by
    simp [okSize, onesP]
  show fin (evSs _ _ (_ :: (.loop baT baB) :: _) [some (S l), some (I (pre.length : Nat)), none, none]) = _
  rw [ss_cons, s1, sb_next, ss_cons, hloop, sb_next]
  rw [List.nil_append]
  simp [isStr, hj, okSize]

include hl ok in
theorem ev_behind (d : Nat) {pre post : List Nat} (w : List Nat) (h : l = pre ++ post) (hs : Behind post) :
    evCall tbl 1000 (d + 2) 11 [S l, I (pre.length : Nat), S w] = some (.ok (.val .none)) := by
  rw [ev_fn (i := 11) (c := f_check_behind) rfl (by decide) rfl rfl]
  have ll := len_l hl
  rcases hs with rfl | ⟨c, r, rfl, hb⟩
  · have h1 : l.length ≤ pre.length := by rw [h]; simp
    simp [f_check_behind, ll, h1, s_retNone]
  · have h1 : ¬ l.length ≤ pre.length := by rw [h]; simp
    have h2 := at_S hl (pre := pre) (c := c) (r := r) h
    have h3 := ev_blank d c (ch_S ok (pre := pre) (c := c) (r := r) h)
    simp [f_check_behind, ll, h1, h2, h3, hb, s_retNone]

noncomputable def brT : CE := .cmp .Lt (.var 3) (.len (.var 0))
noncomputable def brB : List CS := [
    (.assign 4 (.sub (.var 0) (.var 3))),
    (.ite (.cmp .Eq (.var 4) (.lit (.str ⟨#[92]⟩))) [
      (.aug .Add 3 (.lit (.int (1))))] [
      (.ite (.cmp .Eq (.var 4) (.lit (.str ⟨#[123]⟩))) [
        (.aug .Add 2 (.lit (.int (1))))] [
        (.ite (.cmp .Eq (.var 4) (.lit (.str ⟨#[125]⟩))) [
          (.aug .Sub 2 (.lit (.int (1)))),
          (.ite (.cmp .Eq (.var 2) (.lit (.int (0)))) [
            (.drop (.call 11 [(.var 0), (.bin .Add (.var 3) (.lit (.int (1)))), (.lit (.str ⟨#[98, 114, 97, 99, 101, 115]⟩))])),
            (.ret (.tup [(.slice (.var 0) (.var 1) (.var 3)), (.bin .Add (.var 3) (.lit (.int (1))))]))] [])] [])])]),
    (.aug .Add 3 (.lit (.int (1))))]
theorem aug3_add {Φ : Nat → List TV → Option (Out TV)} {x0 x1 x2 : Option TV} {a : Int} {σ : Store} : evS Φ 1000 (.aug .Add 3 (.lit (.int (1)))) (x0 :: x1 :: x2 :: some (I a) :: σ) = some (.ok (.next (x0 :: x1 :: x2 :: some (I (a + 1)) :: σ))) := by
  simp [s_aug (σ := x0 :: x1 :: x2 :: some (I a) :: σ) (i := 3) (a := a) rfl]
theorem aug2_sub' {Φ : Nat → List TV → Option (Out TV)} {x0 x1 : Option TV} {a : Int} {σ : Store} : evS Φ 1000 (.aug .Sub 2 (.lit (.int (1)))) (x0 :: x1 :: some (I a) :: σ) = some (.ok (.next (x0 :: x1 :: some (I (a - 1)) :: σ))) := by
  simp [s_aug (σ := x0 :: x1 :: some (I a) :: σ) (i := 2) (a := a) rfl]
noncomputable def plainB (c : Nat) : Prop := c ≠ 92 ∧ c ≠ 123 ∧ c ≠ 125
include hl in
theorem br_turn {Φ : Nat → List TV → Option (Out TV)} {pre : List Nat} {c : Nat} {r : List Nat} {f : Int} {x4 : Option TV} (h : l = pre ++ c :: r) (hc : plainB c) :
    evSs Φ 1000 brB [some (S l), some (I f), some (I 1), some (I (pre.length : Nat)), x4] = some (.ok (.next [some (S l), some (I f), some (I 1), some (I ((pre ++ [c]).length : Nat)), some (S [c])])) := by
  have h2 := at_S hl (pre := pre) (c := c) (r := r) h
  unfold brB
  obtain ⟨a1, a2, a3⟩ := hc
  simp [h2, a1, a2, a3, aug3_add]
include hl in
theorem br_t {Φ : Nat → List TV → Option (Out TV)} {pre : List Nat} {c : Nat} {r : List Nat} {x1 x2 x4 : Option TV} (h : l = pre ++ c :: r) : evT Φ brT [some (S l), x1, x2, some (I (pre.length : Nat)), x4] = some (.ok true) := by
  have ll := len_l hl
  have h1 : pre.length < l.length := by rw [h]; simp
  simp [brT, ll, h1]
include hl ok in
theorem br_loop (d : Nat) (p0 : List Nat) : ∀ (it done post : List Nat) (x4 : Option TV) (j : Nat), l = p0 ++ done ++ (it ++ 125 :: post) → (∀ c ∈ it, plainB c) → Behind post →
    loopP (evT (evCall tbl 1000 (d + 2)) brT) (evSs (evCall tbl 1000 (d + 2)) 1000 brB) (it.length + 1 + j) [some (S l), some (I (p0.length : Nat)), some (I 1), some (I ((p0 ++ done).length : Nat)), x4] =
      some (.ok (.ret (.val (.tuple [.str ⟨(done ++ it).toArray⟩, .int ((p0.length + (done ++ it).length + 1 : Nat) : Int)])))) := by
  intro it
  induction it with
  | nil =>
    intro done post x4 j h _ hs
    rw [show ([] : List Nat).length + 1 + j = j + 1 by simp; omega, loop_succ, br_t hl (pre := p0 ++ done) (c := 125) (r := post) h, eb_ok, if_pos rfl]
    have h2 := at_S hl (pre := p0 ++ done) (c := 125) (r := post) h
    have hb := ev_behind hl ok d (pre := p0 ++ done ++ [125]) (post := post) [98, 114, 97, 99, 101, 115] (by simp [h]) hs
    have e1 : (((p0 ++ done).length : Nat) : Int) + 1 = ((p0 ++ done ++ [125]).length : Nat) := by simp; omega
    have hsl : sliceop (S l) (I (p0.length : Nat)) (I ((p0 ++ done).length : Nat)) = some (S done) := by
      rw [slice_S (by omega) (by simp; omega) (by rw [h]; simp; omega) (by omega)]
      have e2 : (((p0 ++ done).length : Nat) - (p0.length : Nat) : Int).toNat = done.length := by simp; omega
      rw [e2, Int.toNat_natCast, h, List.append_assoc, List.drop_left, List.take_left]
    have e3 : (p0 ++ done ++ [125]).length = p0.length + (done ++ []).length + 1 := by simp; omega
    rw [← e3, List.append_nil]
    generalize hpd : p0 ++ done = pd at *
    have b : evSs (evCall tbl 1000 (d + 2)) 1000 brB [some (S l), some (I (p0.length : Nat)), some (I 1), some (I (pd.length : Nat)), x4] = some (.ok (.ret (.val (.tuple [.str ⟨done.toArray⟩, .int ((pd ++ [125]).length : Nat)])))) := by
      have q1 : cmpop .Eq (S [125]) (.val (.str ⟨#[92]⟩)) = some false := by rfl
      have q2 : cmpop .Eq (S [125]) (.val (.str ⟨#[123]⟩)) = some false := by rfl
      have q3 : cmpop .Eq (S [125]) (.val (.str ⟨#[125]⟩)) = some true := by rfl
      unfold brB
      simp only [ss_cons, s_assign, e_sub, e_var, sget_succ, sget_zero, Option.map_some, view_val, lift_some, eb_ok, h2, keep_str, if_true, sb_next, sset_succ, sset_zero, s_ite, t_cmp, e_lit, q1, q2, q3, Bool.false_eq_true, if_false, aug2_sub', Int.sub_self, eq_I, decide_true, s_drop, e_call, es_cons, e_bin, add_I, e1, es_nil, hb, drop_none, s_ret, e_tup, e_slice, hsl]
      rfl
    rw [b]; rfl
  | cons c it ih =>
    intro done post x4 j h hb hs
    rw [show (c :: it).length + 1 + j = (it.length + 1 + j) + 1 by simp; omega, loop_succ, br_t hl (pre := p0 ++ done) (c := c) (r := it ++ 125 :: post) (by simpa using h), eb_ok, if_pos rfl, br_turn hl (pre := p0 ++ done) (c := c) (r := it ++ 125 :: post) (by simpa using h) (hb c (by simp)), sb_next]
    have := ih (done ++ [c]) post (some (S [c])) j (by simp [h]) (fun x hx => hb x (by simp [hx])) hs
    rw [← List.append_assoc] at this
    rw [this]
    simp
include hl in
theorem br_open (d : Nat) (f : Int) : ∀ (it pre : List Nat) (x4 : Option TV) (j : Nat), l = pre ++ it → (∀ c ∈ it, plainB c) →
    ∃ σ', loopP (evT (evCall tbl 1000 d) brT) (evSs (evCall tbl 1000 d) 1000 brB) (it.length + 1 + j) [some (S l), some (I f), some (I 1), some (I (pre.length : Nat)), x4] = some (.ok (.next σ')) := by
  intro it
  induction it with
  | nil =>
    intro pre x4 j h _
    have ll := len_l hl
    refine ⟨[some (S l), some (I f), some (I 1), some (I (pre.length : Nat)), x4], ?_⟩
    rw [show ([] : List Nat).length + 1 + j = j + 1 by simp; omega, loop_succ]
    have h1 : ¬ pre.length < l.length := by rw [h]; simp
    have t : evT (evCall tbl 1000 d) brT [some (S l), some (I f), some (I 1), some (I (pre.length : Nat)), x4] = some (.ok false) := by simp [brT, ll, h1]
    rw [t]; rfl
  | cons c it ih =>
    intro pre x4 j h hb
    obtain ⟨σ', q⟩ := ih (pre ++ [c]) (some (S [c])) j (by simp [h]) (fun x hx => hb x (by simp [hx]))
    refine ⟨σ', ?_⟩
    rw [show (c :: it).length + 1 + j = (it.length + 1 + j) + 1 by simp; omega, loop_succ, br_t hl (pre := pre) (c := c) (r := it) h, eb_ok, if_pos rfl, br_turn hl (pre := pre) (c := c) (r := it) h (hb c (by simp)), sb_next, q]
include hl ok in
theorem ev_braced (d : Nat) {it pre post : List Nat} (h : l = pre ++ (it ++ 125 :: post)) (hb : ∀ c ∈ it, plainB c) (hs : Behind post) :
    evCall tbl 1000 (d + 3) 12 [S l, I (pre.length : Nat)] = some (.ok (.val (.tuple [.str ⟨it.toArray⟩, .int ((pre.length + it.length + 1 : Nat) : Int)]))) := by
  rw [ev_fn (i := 12) (c := f_braced_element) rfl (by decide) rfl rfl]
  have hit : it.length ≤ 900 := by rw [h] at hl; simp at hl; omega
  have q := br_loop hl ok d pre it [] post none (999 - it.length) (by simpa using h) hb hs
  rw [show it.length + 1 + (999 - it.length) = 1000 by omega, List.append_nil, List.nil_append] at q
  have hloop : evS (evCall tbl 1000 (d + 2)) 1000 (.loop brT brB) [some (S l), some (I (pre.length : Nat)), some (I 1), some (I (pre.length : Nat)), none] = _ := (s_loop _ _).trans q
  have s1 : evS (evCall tbl 1000 (d + 2)) 1000 (.assignT [2, 3] (.tup [(.lit (.int (1))), (.var 1)])) [some (S l), some (I (pre.length : Nat)), none, none, none] = some (.ok (.next [some (S l), some (I (pre.length : Nat)), some (I 1), some (I (pre.length : Nat)), none])) := by
    simp [okSize]
  show fin (evSs _ _ (_ :: (.loop brT brB) :: _) [some (S l), some (I (pre.length : Nat)), none, none, none]) = _
  rw [ss_cons, s1, sb_next, ss_cons, hloop]
  rfl
noncomputable def openMsg : Str := ⟨#[117, 110, 109, 97, 116, 99, 104, 101, 100, 32, 111, 112, 101, 110, 32, 98, 114, 97, 99, 101, 32, 105, 110, 32, 108, 105, 115, 116]⟩
noncomputable def openEc : List PyData := [.str ⟨#[84, 67, 76]⟩, .str ⟨#[86, 65, 76, 85, 69]⟩, .str ⟨#[76, 73, 83, 84]⟩, .str ⟨#[66, 82, 65, 67, 69]⟩]
include hl in
theorem ev_unbraced (d : Nat) {it pre : List Nat} (h : l = pre ++ it) (hb : ∀ c ∈ it, plainB c) :
    evCall tbl 1000 (d + 2) 12 [S l, I (pre.length : Nat)] = some (.exc openMsg (.tuple openEc)) := by
  rw [ev_fn (i := 12) (c := f_braced_element) rfl (by decide) rfl rfl]
  have hit : it.length ≤ 900 := by rw [h] at hl; simp at hl; omega
  obtain ⟨σ', q⟩ := br_open hl (d + 1) (pre.length : Nat) it pre none (999 - it.length) h hb
  rw [show it.length + 1 + (999 - it.length) = 1000 by omega] at q
  have hloop : evS (evCall tbl 1000 (d + 1)) 1000 (.loop brT brB) [some (S l), some (I (pre.length : Nat)), some (I 1), some (I (pre.length : Nat)), none] = _ := (s_loop _ _).trans q
  have s1 : evS (evCall tbl 1000 (d + 1)) 1000 (.assignT [2, 3] (.tup [(.lit (.int (1))), (.var 1)])) [some (S l), some (I (pre.length : Nat)), none, none, none] = some (.ok (.next [some (S l), some (I (pre.length : Nat)), some (I 1), some (I (pre.length : Nat)), none])) := by
    simp [okSize]
  have e2 := err2' d openMsg (ec := openEc) (by rfl)
  show fin (evSs _ _ (_ :: (.loop brT brB) :: _) [some (S l), some (I (pre.length : Nat)), none, none, none]) = _
  rw [ss_cons, s1, sb_next, ss_cons, hloop, sb_next, ss_cons, s_raise, e_call, es_cons, e_lit, eb_ok, es_cons, e_tup, es_cons, e_lit, eb_ok, es_cons, e_lit, eb_ok, es_cons, e_lit, eb_ok, es_cons, e_lit]
  show fin (sbindQ (ebind (evCall tbl 1000 (d + 1) 0 [.val (.str openMsg), .val (.tuple openEc)]) raisev) _) = _
  rw [e2]
  rfl
end
end NP
end
section
open PySem PySem.Calls PyProof.Rows PySem.W PySem.Spec
set_option maxRecDepth 100000
namespace NP

section
variable {l : List Nat} (hl : l.length ≤ 900) (ok : okS l = true)
noncomputable def fiTail : List CS := [
  (.ite (.cmp .GtE (.var 1) (.len (.var 0))) [
    (.ret (.lit .none))] []),
  (.ite (.cmp .Eq (.sub (.var 0) (.var 1)) (.lit (.str ⟨#[123]⟩))) [
    (.ret (.call 12 [(.var 0), (.bin .Add (.var 1) (.lit (.int (1))))]))] []),
  (.ite (.cmp .Eq (.sub (.var 0) (.var 1)) (.lit (.str ⟨#[34]⟩))) [
    (.ret (.call 13 [(.var 0), (.bin .Add (.var 1) (.lit (.int (1))))]))] []),
  (.ret (.call 14 [(.var 0), (.var 1)]))]
include hl ok in
theorem ev_find (d : Nat) {pre sep rest : List Nat} (h : l = pre ++ (sep ++ rest)) (hb : ∀ c ∈ sep, blankP c = true) (hs : Stop rest) :
    evCall tbl 1000 (d + 2) 15 [S l, I (pre.length : Nat)] = fin (evSs (evCall tbl 1000 (d + 1)) 1000 fiTail [some (S l), some (I ((pre ++ sep).length : Nat))]) := by
  rw [ev_fn (i := 15) (c := f_find_element) rfl (by decide) rfl rfl]
  have hit : sep.length ≤ 900 := by rw [h] at hl; simp at hl; omega
  have q := sk_loop hl ok d sep pre rest (999 - sep.length) h hb hs
  rw [show sep.length + 1 + (999 - sep.length) = 1000 by omega] at q
  have hloop : evS (evCall tbl 1000 (d + 1)) 1000 (.loop skT skB) [some (S l), some (I (pre.length : Nat))] = _ := (s_loop _ _).trans q
  show fin (evSs _ _ ((.loop skT skB) :: fiTail) [some (S l), some (I (pre.length : Nat))]) = _
  rw [ss_cons, hloop, sb_next, List.length_append]
include hl ok in
theorem ev_find_end (d : Nat) {pre sep : List Nat} (h : l = pre ++ sep) (hb : ∀ c ∈ sep, blankP c = true) :
    evCall tbl 1000 (d + 2) 15 [S l, I (pre.length : Nat)] = some (.ok (.val .none)) := by
  rw [ev_find hl ok d (pre := pre) (sep := sep) (rest := []) (by simpa using h) hb (.inl rfl)]
  have ll := len_l hl
  have h1 : l.length ≤ (pre ++ sep).length := by rw [h]; exact Nat.le_refl _
  generalize pre ++ sep = ps at *
  simp [fiTail, ll, h1]
include hl ok in
theorem ev_find_brace (d : Nat) {pre sep it post : List Nat} (h : l = pre ++ (sep ++ 123 :: (it ++ 125 :: post))) (hb : ∀ c ∈ sep, blankP c = true) (hi : ∀ c ∈ it, plainB c) (hs : Behind post) :
    evCall tbl 1000 (d + 4) 15 [S l, I (pre.length : Nat)] = some (.ok (.val (.tuple [.str ⟨it.toArray⟩, .int ((pre ++ sep ++ 123 :: (it ++ [125])).length : Nat)]))) := by
  rw [ev_find hl ok (d + 2) h hb (.inr ⟨123, _, rfl, by decide⟩)]
  have ll := len_l hl
  have h2 := at_S hl (pre := pre ++ sep) (c := 123) (r := it ++ 125 :: post) (by simp [h])
  have h3 := ev_braced hl ok d (pre := pre ++ sep ++ [123]) (it := it) (post := post) (by simp [h]) hi hs
  have e3 : (pre ++ sep ++ [123]).length + it.length + 1 = (pre ++ sep ++ 123 :: (it ++ [125])).length := by simp; omega
  rw [e3] at h3
  have e1 : (((pre ++ sep).length : Nat) : Int) + 1 = ((pre ++ sep ++ [123]).length : Nat) := by simp; omega
  have h1 : ¬ l.length ≤ (pre ++ sep).length := by rw [h]; simp
  generalize (pre ++ sep ++ 123 :: (it ++ [125])).length = pos at *
  generalize (pre ++ sep ++ [123]).length = q at *
  generalize pre ++ sep = ps at *
  have q2 : cmpop .Eq (S [123]) (.val (.str ⟨#[123]⟩)) = some true := by rfl
  simp [fiTail, ll, h1, h2, e1, h3]
include hl ok in
theorem ev_find_open (d : Nat) {pre sep it : List Nat} (h : l = pre ++ (sep ++ 123 :: it)) (hb : ∀ c ∈ sep, blankP c = true) (hi : ∀ c ∈ it, plainB c) :
    evCall tbl 1000 (d + 4) 15 [S l, I (pre.length : Nat)] = some (.exc openMsg (.tuple openEc)) := by
  rw [ev_find hl ok (d + 2) h hb (.inr ⟨123, _, rfl, by decide⟩)]
  have ll := len_l hl
  have h2 := at_S hl (pre := pre ++ sep) (c := 123) (r := it) (by simp [h])
  have h3 := ev_unbraced hl (d + 1) (pre := pre ++ sep ++ [123]) (it := it) (by simp [h]) hi
  have e1 : (((pre ++ sep).length : Nat) : Int) + 1 = ((pre ++ sep ++ [123]).length : Nat) := by simp; omega
  have h1 : ¬ l.length ≤ (pre ++ sep).length := by rw [h]; simp
  generalize (pre ++ sep ++ [123]).length = q at *
  generalize pre ++ sep = ps at *
  simp [fiTail, ll, h1, h2, e1, h3]
include hl ok in
theorem ev_find_bare (d : Nat) {pre sep r post : List Nat} {c : Nat} (h : l = pre ++ (sep ++ (c :: r ++ post))) (hb : ∀ c ∈ sep, blankP c = true) (hi : ∀ x ∈ c :: r, blankP x = false ∧ x ≠ 92) (hc : c ≠ 123 ∧ c ≠ 34) (hs : Behind post) :
    evCall tbl 1000 (d + 4) 15 [S l, I (pre.length : Nat)] = some (.ok (.val (.tuple [.str ⟨(c :: r).toArray⟩, .int ((pre ++ sep ++ c :: r).length : Nat)]))) := by
  rw [ev_find hl ok (d + 2) h hb (.inr ⟨c, r ++ post, rfl, (hi c (by simp)).1⟩)]
  have ll := len_l hl
  have h2 := at_S hl (pre := pre ++ sep) (c := c) (r := r ++ post) (by simp [h])
  have h3 := ev_bare hl ok (d + 1) (pre := pre ++ sep) (it := c :: r) (post := post) (by simp [h]) hi hs
  have e3 : (pre ++ sep).length + (c :: r).length = (pre ++ sep ++ c :: r).length := by simp; omega
  rw [e3] at h3
  have h1 : ¬ l.length ≤ (pre ++ sep).length := by rw [h]; simp
  generalize (pre ++ sep ++ c :: r).length = pos at *
  generalize pre ++ sep = ps at *
  generalize hcr : c :: r = cr at *
  simp [fiTail, ll, h1, h2, hc.1, hc.2, h3]
end

structure Pc where
  sep : List Nat
  it : List Nat
  bare : Bool
noncomputable def Pc.tok (p : Pc) : List Nat := if p.bare = true then p.it else 123 :: (p.it ++ [125])
noncomputable def Pc.ok (p : Pc) : Prop := (∀ c ∈ p.sep, blankP c = true) ∧ (∀ c ∈ p.it, plainB c) ∧ (p.bare = true → ∃ c r, p.it = c :: r ∧ (∀ x ∈ c :: r, blankP x = false ∧ x ≠ 92) ∧ c ≠ 123 ∧ c ≠ 34)
noncomputable def txt : List Pc → List Nat
  | [] => []
  | p :: r => p.sep ++ (p.tok ++ txt r)
noncomputable def its (ps : List Pc) : List PyData := ps.map fun p => .str ⟨p.it.toArray⟩
noncomputable def tl (o : Bool) : List Nat := if o = true then [32, 123, 120] else []
theorem txt_behind {r : List Pc} {o : Bool} (h : ∀ p ∈ r, p.ok ∧ p.sep ≠ []) : Behind (txt r ++ tl o) := by
  cases r with
  | nil =>
    cases o with
    | false => exact .inl rfl
    | true => exact .inr ⟨32, _, rfl, by decide⟩
  | cons p r =>
    obtain ⟨h1, h2⟩ := h p (by simp)
    cases hs : p.sep with
    | nil => exact absurd hs h2
    | cons c q =>
      refine .inr ⟨c, q ++ (p.tok ++ txt r) ++ tl o, ?_, h1.1 c (by rw [hs]; simp)⟩
      show p.sep ++ (p.tok ++ txt r) ++ tl o = _
      rw [hs]; rfl

section
variable {l : List Nat} (hl : l.length ≤ 900) (ok : okS l = true)
include hl ok in
theorem find_pc (d : Nat) {pre : List Nat} {p : Pc} {r : List Pc} {o : Bool} (h : l = pre ++ (txt (p :: r) ++ tl o)) (hp : p.ok) (hr : ∀ p ∈ r, p.ok ∧ p.sep ≠ []) :
    evCall tbl 1000 (d + 4) 15 [S l, I (pre.length : Nat)] = some (.ok (.val (.tuple [.str ⟨p.it.toArray⟩, .int ((pre ++ p.sep ++ p.tok).length : Nat)]))) := by
  have hbh := txt_behind (o := o) hr
  obtain ⟨sep, it, bare⟩ := p
  obtain ⟨h1, h2, h3⟩ := hp
  have h : l = pre ++ (sep ++ ((⟨sep, it, bare⟩ : Pc).tok ++ (txt r ++ tl o))) := by rw [h]; simp [txt]
  cases bare with
  | false =>
    have e : (⟨sep, it, false⟩ : Pc).tok = 123 :: (it ++ [125]) := rfl
    rw [e] at h ⊢
    exact ev_find_brace hl ok d (pre := pre) (sep := sep) (it := it) (post := txt r ++ tl o) (by simpa using h) h1 h2 hbh
  | true =>
    obtain ⟨c, q, e1, e2, e3, e4⟩ := h3 rfl
    have e1 : it = c :: q := e1
    subst e1
    have e : (⟨sep, c :: q, true⟩ : Pc).tok = c :: q := rfl
    rw [e] at h ⊢
    exact ev_find_bare hl ok d (pre := pre) (sep := sep) (r := q) (c := c) (post := txt r ++ tl o) (by simpa using h) h1 e2 ⟨e3, e4⟩ hbh

noncomputable def spT : CE := .cmp .IsNot (.var 2) (.lit .none)
noncomputable def spB : List CS := [
    (.append 1 (.sub (.var 2) (.lit (.int (0))))),
    (.assign 2 (.call 15 [(.var 0), (.sub (.var 2) (.lit (.int (1))))]))]
noncomputable def spEnd (l : List Nat) (xs : List PyData) (o : Bool) : Option (Out (SO Store)) := if o = true then some (.exc openMsg (.tuple openEc)) else some (.ok (.next [some (S l), some (.own xs), some (.val .none)]))
theorem sp_turn {Φ : Nat → List TV → Option (Out TV)} {xs : List PyData} {it : Str} {pos : Int} {r : Option (Out TV)} (hx : xs.length ≤ 900) (h : Φ 15 [S l, I pos] = r) :
    evSs Φ 1000 spB [some (S l), some (.own xs), some (.val (.tuple [.str it, .int pos]))] = ebind r fun v => if keepable v = true then some (.ok (.next [some (S l), some (.own (xs ++ [.str it])), some v])) else none := by
  have h0 : subop (.val (.tuple [.str it, .int pos])) (.val (.int 0)) = some (.val (.str it)) := rfl
  have h1 : subop (.val (.tuple [.str it, .int pos])) (.val (.int 1)) = some (.val (.int pos)) := rfl
  unfold spB
  rw [ss_cons, s_append (xs := xs) rfl]
  simp only [e_sub, e_var, sget_succ, sget_zero, Option.map_some, view_val, lift_some, eb_ok, e_lit, h0]
  rw [appv_val rfl (by omega)]
  simp only [sb_next, sset_succ, sset_zero, ss_cons, s_assign, e_call, es_cons, e_var, sget_succ, sget_zero, Option.map_some, view_val, lift_some, eb_ok, e_sub, e_lit, h1, es_nil, h]
  rcases r with _ | ⟨v⟩ | ⟨t, e⟩
  · rfl
  · simp only [eb_ok]
    split <;> rfl
  · rfl
include hl ok in
theorem sp_loop (d : Nat) (o : Bool) : ∀ (r : List Pc) (p : Pc) (pre : List Nat) (xs : List PyData) (j : Nat), l = pre ++ (txt (p :: r) ++ tl o) → p.ok → (∀ p ∈ r, p.ok ∧ p.sep ≠ []) → xs.length + r.length ≤ 900 →
    loopP (evT (evCall tbl 1000 (d + 4)) spT) (evSs (evCall tbl 1000 (d + 4)) 1000 spB) (r.length + 2 + j) [some (S l), some (.own xs), some (.val (.tuple [.str ⟨p.it.toArray⟩, .int ((pre ++ p.sep ++ p.tok).length : Nat)]))] = spEnd l (xs ++ its (p :: r)) o := by
  intro r
  have t : ∀ x1 it pos, evT (evCall tbl 1000 (d + 4)) spT [some (S l), x1, some (.val (.tuple [.str it, .int pos]))] = some (.ok true) := fun x1 it pos => by simp [spT]
  have t0 : ∀ x1, evT (evCall tbl 1000 (d + 4)) spT [some (S l), x1, some (.val .none)] = some (.ok false) := fun x1 => by simp [spT]
  induction r with
  | nil =>
    intro p pre xs j h hp _ hx
    have h : l = pre ++ p.sep ++ p.tok ++ tl o := by rw [h]; simp [txt]
    rw [show ([] : List Pc).length + 2 + j = (j + 1) + 1 by simp; omega, loop_succ, t, eb_ok, if_pos rfl]
    cases o with
    | false =>
      have hf := ev_find_end hl ok (d + 2) (pre := pre ++ p.sep ++ p.tok) (sep := []) (by simpa [tl] using h) (by simp)
      rw [sp_turn (by simpa using hx) hf]
      simp only [eb_ok, keep_none, if_true, sb_next]
      rw [loop_succ, t0]
      rfl
    | true =>
      have hf := ev_find_open hl ok d (pre := pre ++ p.sep ++ p.tok) (sep := [32]) (it := [120]) (by simpa [tl] using h) (by decide) (by intro c hc; simp at hc; subst hc; exact ⟨by decide, by decide, by decide⟩)
      rw [sp_turn (by simpa using hx) hf]
      rfl
  | cons p' r ih =>
    intro p pre xs j h hp hr hx
    rw [show (p' :: r).length + 2 + j = (r.length + 2 + j) + 1 by simp; omega, loop_succ, t, eb_ok, if_pos rfl]
    have h2 : l = (pre ++ p.sep ++ p.tok) ++ (txt (p' :: r) ++ tl o) := by rw [h]; simp [txt]
    have hf := find_pc hl ok d (o := o) h2 (hr p' (by simp)).1 (fun q hq => hr q (by simp [hq]))
    rw [sp_turn (by simp at hx; omega) hf]
    simp only [eb_ok, keep_tuple, flats_cons, flat_str, flat_int, flats_nil, Bool.and_self, if_true, sb_next]
    rw [ih p' (pre ++ p.sep ++ p.tok) (xs ++ [PyData.str ⟨p.it.toArray⟩]) j h2 (hr p' (by simp)).1 (fun q hq => hr q (by simp [hq])) (by simp at hx ⊢; omega)]
    simp [its]
include hl ok in
theorem ev_split (d : Nat) (o : Bool) {p : Pc} {r : List Pc} (h : l = txt (p :: r) ++ tl o) (hp : p.ok) (hr : ∀ p ∈ r, p.ok ∧ p.sep ≠ []) (hn : r.length ≤ 100) :
    evCall tbl 1000 (d + 5) 16 [S l] = if o = true then some (.exc openMsg (.tuple openEc)) else some (.ok (.val (.list (its (p :: r))))) := by
  rw [ev_fn (i := 16) (c := f_split_list) rfl (by decide) rfl rfl]
  have hf := find_pc hl ok d (pre := []) (o := o) (by simpa using h) hp hr
  have q := sp_loop hl ok d o r p [] [] (998 - r.length) (by simpa using h) hp hr (by simp; omega)
  rw [show r.length + 2 + (998 - r.length) = 1000 by omega] at q
  have hloop : evS (evCall tbl 1000 (d + 4)) 1000 (.loop spT spB) [some (S l), some (.own []), some (.val (.tuple [.str ⟨p.it.toArray⟩, .int (([] ++ p.sep ++ p.tok).length : Nat)]))] = _ := (s_loop _ _).trans q
  have s1 : evS (evCall tbl 1000 (d + 4)) 1000 (.assign 1 (.lst [])) [some (S l), none, none] = some (.ok (.next [some (S l), some (.own []), none])) := by simp [okSize]
  have s2 : evS (evCall tbl 1000 (d + 4)) 1000 (.assign 2 (.call 15 [(.var 0), (.lit (.int (0)))])) [some (S l), some (.own []), none] = some (.ok (.next [some (S l), some (.own []), some (.val (.tuple [.str ⟨p.it.toArray⟩, .int (([] ++ p.sep ++ p.tok).length : Nat)]))])) := by
    have hf : evCall tbl 1000 (d + 4) 15 [S l, .val (.int 0)] = _ := hf
    simp only [s_assign, e_call, es_cons, e_var, sget_succ, sget_zero, Option.map_some, view_val, lift_some, eb_ok, e_lit, es_nil, hf, keep_tuple, flats_cons, flat_str, flat_int, flats_nil, Bool.and_self, if_true, sset_succ, sset_zero]
  show fin (evSs _ _ (_ :: _ :: (.loop spT spB) :: _) [some (S l), none, none]) = _
  rw [ss_cons, s1, sb_next, ss_cons, s2, sb_next, ss_cons, hloop]
  cases o <;> rfl
end

theorem its_all {ps : List Pc} (h : ∀ p ∈ ps, okS p.it = true) : (its ps).all isS = true := by
  rw [List.all_eq_true]
  intro x hx
  unfold its at hx
  obtain ⟨p, h1, h2⟩ := List.mem_map.mp hx
  subst h2
  exact strOk_S (h p h1)
theorem in_lS {l : List Nat} {xs : List PyData} (h : okS l = true) (hx : xs.all isS = true) : cmpop .In (S l) (.val (.list xs)) = some (anyEq (.str ⟨l.toArray⟩) xs) := by
  show (if inOk _ _ = true then _ else _) = _
  rw [if_pos (inOk_S h hx)]
noncomputable def opI (k : Nat) : List Nat := if k % 2 = 0 then [105, 110] else [110, 105]
@[simp] theorem eq_bb (a b : Bool) : cmpop .Eq (.val (.bool a)) (.val (.bool b)) = some (a == b) := rfl
theorem told_in {d : Nat} (z : Bool) (o : Bool) {a l : List Nat} {p : Pc} {r : List Pc} (hl : l.length ≤ 900) (ok : okS l = true) (h : l = txt (p :: r) ++ tl o) (hp : p.ok) (hr : ∀ p ∈ r, p.ok ∧ p.sep ≠ []) (hn : r.length ≤ 100) (ha : okS a = true) (hi : ∀ q ∈ p :: r, okS q.it = true) :
    evCall tbl 1000 (d + 7) 35 [S (if z = true then [105, 110] else [110, 105]), .val (.tuple [.str ⟨a.toArray⟩, .str ⟨l.toArray⟩])] = some (.ok (.val (if o = true then failP openMsg (.tuple openEc) else goodP ⟨(bitL (anyEq (.str ⟨a.toArray⟩) (its (p :: r)) == z)).toArray⟩))) := by
  have hsp := ev_split hl ok d o h hp hr hn
  have hin := in_lS ha (its_all hi)
  have ht := ev_textof (d + 4) (anyEq (.str ⟨a.toArray⟩) (its (p :: r)) == z)
  have i1 : ∀ z : Bool, cmpop .In (S (if z = true then [105, 110] else [110, 105])) (.val (.tuple [.str ⟨#[61, 61]⟩, .str ⟨#[33, 61]⟩, .str ⟨#[60]⟩, .str ⟨#[60, 61]⟩, .str ⟨#[62]⟩, .str ⟨#[62, 61]⟩])) = some false := by intro z; cases z <;> kernel_rfl
  have i2 : ∀ z : Bool, cmpop .In (S (if z = true then [105, 110] else [110, 105])) (.val (.tuple [.str ⟨#[101, 113]⟩, .str ⟨#[110, 101]⟩, .str ⟨#[108, 116]⟩, .str ⟨#[108, 101]⟩, .str ⟨#[103, 116]⟩, .str ⟨#[103, 101]⟩])) = some false := by intro z; cases z <;> kernel_rfl
  have i3 : ∀ z : Bool, cmpop .In (S (if z = true then [105, 110] else [110, 105])) (.val (.tuple [.str ⟨#[105, 110]⟩, .str ⟨#[110, 105]⟩])) = some true := by intro z; cases z <;> kernel_rfl
  have i4 : ∀ z : Bool, cmpop .Eq (S (if z = true then [105, 110] else [110, 105])) (.val (.str ⟨#[105, 110]⟩)) = some z := by intro z; cases z <;> kernel_rfl
  have i1 := i1 z
  have i2 := i2 z
  have i3 := i3 z
  have i4 := i4 z
  generalize (if z = true then [105, 110] else [110, 105]) = op at *
  generalize hI : its (p :: r) = ii at *
  cases o with
  | true =>
    refine told2_exc (d := d + 5) ?_
    rw [ev_fn (i := 29) (c := f_binary) rfl (by decide) rfl rfl]
    simp at hsp
    simp [f_binary, okSize, i1, i2, i3, hsp]
  | false =>
    refine told2_ok (d := d + 5) ?_
    rw [ev_fn (i := 29) (c := f_binary) rfl (by decide) rfl rfl]
    simp at hsp
    simp [f_binary, okSize, i1, i2, i3, hsp, hin, i4, ht, bitL]
end NP
end
section
open PySem PySem.Calls PyProof.Rows PySem.W PySem.Spec
set_option maxRecDepth 100000
namespace NP

noncomputable def scr (ns : List Int) : TV := .val (.list (ns.map .int))
theorem ev_number (d : Nat) {ns : List Int} (h : ns.length ≤ 63) (p : Int) : ∃ v, evCall tbl 1000 (d + 1) 30 [scr ns, I p] = some (.ok (I v)) := by
  rw [ev_fn (i := 30) (c := f_law_number) rfl (by decide) rfl rfl]
  have hl : lenop (scr ns) = some (I ns.length) := by
    have := len_L (xs := ns.map .int) (by simp; omega)
    rw [List.length_map] at this
    exact this
  by_cases h0 : ns = []
  · subst h0
    exact ⟨0, by simp [f_law_number, scr, hl] at hl ⊢; simp [hl]⟩
  · have hp : 0 < ns.length := List.length_pos_iff.mpr h0
    obtain ⟨k, k1, k2⟩ := fmod_nat p (m := ns.length) hp
    have hm := mod_I (a := p) (b := (ns.length : Int)) (by omega)
    rw [k2] at hm
    have hs : subop (scr ns) (I (k : Nat)) = some (I (ns[k]'k1)) := by
      refine sub_L ?_ (by simp; omega)
      rw [List.getElem?_map, List.getElem?_eq_getElem k1]; rfl
    refine ⟨ns[k]'k1, ?_⟩
    have hp' : (0 : Int) < (ns.length : Int) := by omega
    show fin (evSs _ _ _ [some (scr ns), some (I p)]) = _
    have vs : view (scr ns) = scr ns := rfl
    generalize scr ns = sc at *
    simp [f_law_number, vs, hl, hp, hm, hs]

theorem p64 : binop .Pow (.val (.int 2)) (.val (.int 64)) = some (I 18446744073709551616) := pow_I (by decide) (by decide) (inTop_lit (Nat.le_trans (show (2 : Int).natAbs ≤ 2 by decide) (by decide)))
theorem p36 : binop .Pow (.val (.int 2)) (.val (.int 36)) = some (I 68719476736) := pow_I (by decide) (by decide) (inTop_lit (Nat.le_trans (show (2 : Int).natAbs ≤ 2 by decide) (by decide)))
noncomputable def valL : List Int := [3, 0, -18446744073709551617, -1, -12, 1, 2147483648, 268435456, 6, 0]
noncomputable def valT : CE := .tup [(.lit (.int (3))), (.lit (.int (0))), (.bin .Sub (.neg (.bin .Pow (.lit (.int (2))) (.lit (.int (64))))) (.lit (.int (1)))), (.neg (.lit (.int (1)))), (.neg (.lit (.int (12)))), (.lit (.int (1))), (.bin .Pow (.lit (.int (2))) (.lit (.int (31)))), (.bin .Pow (.lit (.int (2))) (.lit (.int (28)))), (.lit (.int (6))), (.lit (.int (0)))]
theorem valT_ev {Φ : Nat → List TV → Option (Out TV)} {σ : Store} : evE Φ valT σ = some (.ok (.val (.tuple (valL.map .int)))) := by
  unfold valT
  rw [e_tup, es_cons, e_lit, eb_ok, es_cons, e_lit, eb_ok, es_cons, k_bin (v := I (-18446744073709551617)) (k_neg (k_bin rfl rfl p64)) rfl rfl, eb_ok, es_cons, k_neg (i := 1) rfl, eb_ok, es_cons, k_neg (i := 12) rfl, eb_ok, es_cons, e_lit, eb_ok,
    es_cons, k_bin rfl rfl p31, eb_ok, es_cons, k_bin rfl rfl p28, eb_ok]
  rfl
theorem val_sub {j : Nat} (h : j < 10) : subop (.val (.tuple (valL.map .int))) (I (j : Nat)) = some (I (valL.getD j 0)) := by
  have : j < valL.length := h
  refine sub_T ?_ (by decide)
  rw [List.getElem?_map, List.getElem?_eq_getElem this, List.getD_eq_getElem?_getD, List.getElem?_eq_getElem this]
  rfl
theorem abs_num (n k : Int) (h0 : 0 ≤ k) (hk : k ≤ 100) : (n + 3 * k - 20).natAbs ≤ n.natAbs + 400 := by omega
theorem ev_value (d : Nat) (n k : Int) (h0 : 0 ≤ k) (hk : k ≤ 100) : ∃ v, evCall tbl 1000 (d + 1) 31 [I n, I k] = some (.ok (I v)) ∧ v.natAbs ≤ 2 ^ 66 := by
  rw [ev_fn (i := 31) (c := f_law_value) rfl (by decide) rfl rfl]
  have mk : binop .Mult (.val (.int 3)) (I k) = some (I (3 * k)) := mul_I (by decide +kernel) (top_of (k := 7) (by omega) (by decide))
  by_cases hp : (n + k).fmod 2 = 0
  · obtain ⟨j, j1, j2⟩ := fmod_nat (n.fdiv 2 + k) (m := 10) (by decide)
    refine ⟨valL.getD j 0, ?_, ?_⟩
    · refine k_take (dT hp) (k_ret (v := I (valL.getD j 0)) (k_sub (w := I (j : Nat)) valT_ev ?_ (val_sub j1)))
      refine k_bin (u := I (n.fdiv 2 + k)) (w := I 10) (k_bin (k_bin rfl rfl (div2_I n)) rfl rfl) rfl ((mod_I (by decide)).trans ?_)
      rw [show (n.fdiv 2 + k).fmod 10 = (j : Int) from j2]
    · have : ∀ j : Fin 10, (valL.getD j.val 0).natAbs ≤ 2 ^ 66 := by decide +kernel
      exact this ⟨j, j1⟩
  · have b2 : ((n.natAbs : Int).fdiv 2).fmod 68719476736 = (n.natAbs : Int) / 2 % 68719476736 := by rw [fd2]; exact Int.fmod_eq_emod_of_nonneg _ (by decide)
    have sz : evE (evCall tbl 1000 d) (.bin .Mod (.bin .FloorDiv (.abs (.var 0)) (.lit (.int (2)))) (.bin .Pow (.lit (.int (2))) (.lit (.int (36))))) [some (I n), some (I k), none] = some (.ok (I ((n.natAbs : Int) / 2 % 68719476736))) :=
      b2 ▸ k_bin (k_bin (k_abs (i := n) rfl) rfl (div2_I _)) (k_bin rfl rfl p36) (mod_I (by decide))
    have q : ((n.natAbs : Int) / 2 % 68719476736).natAbs ≤ 68719476736 := by
      generalize (n.natAbs : Int) / 2 = z
      omega
    generalize (n.natAbs : Int) / 2 % 68719476736 = z at *
    have big : ∀ w : Int, w.natAbs ≤ z.natAbs → (w + 3 * k - 20).natAbs ≤ 2 ^ 66 := fun w h => Nat.le_trans (abs_num w k h0 hk) (Nat.le_trans (Nat.add_le_add_right (Nat.le_trans h q) 400) (by decide))
    by_cases hn : 0 < n
    · exact ⟨z + 3 * k - 20, k_skip (dF hp) (k_set sz rfl (k_ret (v := I (z + 3 * k - 20)) (k_bin (k_bin (u := I z) (k_ifT (dT hn) rfl) (k_bin rfl rfl mk) rfl) rfl rfl))), big z (Nat.le_refl _)⟩
    · exact ⟨-z + 3 * k - 20, k_skip (dF hp) (k_set sz rfl (k_ret (v := I (-z + 3 * k - 20)) (k_bin (k_bin (u := I (-z)) (k_ifF (dF hn) (k_neg rfl)) (k_bin rfl rfl mk) rfl) rfl rfl))), big (-z) (by rw [Int.natAbs_neg]; exact Nat.le_refl _)⟩
theorem ev_small (d : Nat) (n : Int) : ∃ v, evCall tbl 1000 (d + 1) 32 [I n] = some (.ok (I v)) ∧ v.natAbs ≤ 1000 := by
  rw [ev_fn (i := 32) (c := f_law_small) rfl (by decide) rfl rfl]
  have sz : evE (evCall tbl 1000 d) (.bin .Mod (.abs (.var 0)) (.lit (.int (997)))) [some (I n), none] = some (.ok (I ((n.natAbs : Int).fmod 997))) := k_bin (k_abs (i := n) rfl) rfl (mod_I (by decide))
  have q : ((n.natAbs : Int).fmod 997).natAbs ≤ 1000 := by
    have a1 := Int.fmod_nonneg_of_pos (n.natAbs : Int) (b := 997) (by decide)
    have a2 := Int.fmod_lt_of_pos (n.natAbs : Int) (b := 997) (by decide)
    generalize (n.natAbs : Int).fmod 997 = z at *
    omega
  by_cases hn : 0 < n
  · exact ⟨_, k_set sz rfl (k_ret (v := I _) (k_ifT (dT hn) rfl)), q⟩
  · exact ⟨_, k_set sz rfl (k_ret (v := I _) (k_ifF (dF hn) (k_neg rfl))), by rw [Int.natAbs_neg]; exact q⟩

theorem for_inv {body : PyData → Store → Option (Out (SO Store))} (P : Nat → Store → Prop) : ∀ (ds : List PyData) (i : Nat) (σ : Store), (∀ k d σ, ds[k]? = some d → P (i + k) σ → ∃ σ', body d σ = some (.ok (.next σ')) ∧ P (i + k + 1) σ') → P i σ →
    ∃ σ', forP body ds σ = some (.ok (.next σ')) ∧ P (i + ds.length) σ'
  | [], i, σ, _, h0 => ⟨σ, rfl, h0⟩
  | d :: ds, i, σ, h, h0 => by
    obtain ⟨σ₁, e1, p1⟩ := h 0 d σ rfl h0
    obtain ⟨σ₂, e2, p2⟩ := for_inv P ds (i + 1) σ₁ (fun k d σ hd hp => by
      have := h (k + 1) d σ hd (by rw [show i + (k + 1) = i + 1 + k by omega]; exact hp)
      rw [show i + (k + 1) + 1 = i + 1 + k + 1 by omega] at this
      exact this) p1
    refine ⟨σ₂, ?_, ?_⟩
    · rw [for_cons, e1, sb_next, e2]
    · rw [List.length_cons, show i + (ds.length + 1) = i + 1 + ds.length by omega]; exact p2
section
variable {Φ : Nat → List TV → Option (Out TV)} {N : Nat} {σ : Store}
theorem s_range {i : Nat} {it : CE} {b : List CS} {n : Nat} (P : Nat → Store → Prop) (hit : evE Φ it σ = some (.ok (I (n : Nat)))) (hn : n ≤ 1000)
    (h : ∀ k σ, k < n → P k σ → ∃ σ', evSs Φ N b (sset σ i (I (k : Nat))) = some (.ok (.next σ')) ∧ P (k + 1) σ') (h0 : P 0 σ) :
    ∃ σ', evS Φ N (.for1 i (.rng it) b) σ = some (.ok (.next σ')) ∧ P n σ' := by
  have hr : rngv (I (n : Nat)) = some (.ok (NP.range (n : Nat))) := by
    show (if _ then _ else _) = _
    rw [if_pos (by omega)]
  obtain ⟨σ', e, p⟩ := for_inv (body := fun d σ => evSs Φ N b (sset σ i (.val d))) P (NP.range (n : Nat)) 0 σ (fun k d σ hd hp => by
    unfold NP.range at hd
    rw [List.getElem?_map] at hd
    have hk : k < n := by
      cases hh : (List.range ((n : Int)).toNat)[k]? with
      | none => rw [hh] at hd; cases hd
      | some x =>
        have := (List.getElem?_eq_some_iff.mp hh).1
        simpa using this
    rw [List.getElem?_range (by simpa using hk)] at hd
    injection hd with hd
    subst hd
    rw [Nat.zero_add] at hp ⊢
    exact h k σ hk hp) h0
  refine ⟨σ', ?_, ?_⟩
  · rw [s_for1, it_rng, hit, eb_ok, hr, eb_ok, e]
  · unfold NP.range at p
    simpa using p
theorem s_assign_ok {i : Nat} {e : CE} {v : TV} (h : evE Φ e σ = some (.ok v)) (hk : keepable v = true) : evS Φ N (.assign i e) σ = some (.ok (.next (sset σ i v))) := by
  rw [s_assign, h, eb_ok, if_pos hk]
noncomputable def appS (Φ : Nat → List TV → Option (Out TV)) (σ : Store) (i : Nat) (e : CE) : Option TV → Option (Out (SO Store))
  | some (.own xs) => ebind (evE Φ e σ) (appv σ i xs)
  | _ => none
theorem s_append' {i : Nat} {e : CE} : evS Φ N (.append i e) σ = appS Φ σ i e (sget σ i) := by
  rw [r_append]
  rcases sget σ i with _ | ⟨d⟩ | ⟨xs⟩ | ⟨t, ec⟩ <;> rfl
@[simp] theorem appS_own {i : Nat} {e : CE} {xs : List PyData} : appS Φ σ i e (some (.own xs)) = ebind (evE Φ e σ) (appv σ i xs) := rfl
end
noncomputable def opsD : List PyData := opsL.map fun l => .str ⟨l.toArray⟩
noncomputable def Bse (ns : List Int) (σ : Store) : Prop := σ.length = 30 ∧ sget σ 0 = some (scr ns) ∧ sget σ 1 = some (.val (.tuple opsD))
theorem Bse.set {ns : List Int} {σ : Store} (h : Bse ns σ) {i : Nat} (hi : 2 ≤ i) (v : TV) : Bse ns (sset σ i v) :=
  ⟨by rw [ss_len]; exact h.1, by rw [ss_sget_ne (by omega)]; exact h.2.1, by rw [ss_sget_ne (by omega)]; exact h.2.2⟩
noncomputable def RowOK (r : PyData) : Prop := ∃ op x y, op ∈ opsL ∧ r = .tuple [.str ⟨op.toArray⟩, .int x, .int y] ∧ x.natAbs ≤ 2 ^ 66 ∧ y.natAbs ≤ 2 ^ 66
@[simp] theorem view_scr (ns : List Int) : view (scr ns) = scr ns := rfl
theorem ops_get {k : Nat} (h : k < 11) : ∃ op, op ∈ opsL ∧ subop (.val (.tuple opsD)) (I (k : Nat)) = some (S op) := by
  have hk : k < opsL.length := h
  refine ⟨opsL[k], List.getElem_mem hk, sub_T ?_ (by decide)⟩
  unfold opsD
  rw [List.getElem?_map, List.getElem?_eq_getElem hk]; rfl

noncomputable def ph1 : List CS := [
    (.assign 4 (.call 31 [(.call 30 [(.var 0), (.var 3)]), (.var 3)])),
    (.assign 5 (.call 31 [(.call 30 [(.var 0), (.bin .Add (.var 3) (.lit (.int (11))))]), (.bin .Add (.var 3) (.lit (.int (5))))])),
    (.append 2 (.tup [(.sub (.var 1) (.var 3)), (.var 4), (.var 5)])),
    (.ite (.cmp .In (.var 3) (.tup [(.lit (.int (1))), (.lit (.int (3))), (.lit (.int (4))), (.lit (.int (5))), (.lit (.int (6))), (.lit (.int (7)))])) [
      (.append 2 (.tup [(.sub (.var 1) (.var 3)), (.var 5), (.var 4)]))] [])]
noncomputable def P1 (ns : List Int) (k : Nat) (σ : Store) : Prop := Bse ns σ ∧ ∃ rows, sget σ 2 = some (.own rows) ∧ (∀ r ∈ rows, RowOK r) ∧ rows.length ≤ 2 * k
theorem appv_ok {σ : Store} {i : Nat} {xs : List PyData} {d : PyData} (hf : flat d = true) (hl : okSize xs.length = true) : appv σ i xs (.val d) = some (.ok (.next (sset σ i (.own (xs ++ [d]))))) := by
  show (if _ then _ else _) = _
  rw [hf, hl]; rfl
theorem ph1_turn (d : Nat) {ns : List Int} (hns : ns.length ≤ 63) (k : Nat) (σ : Store) (hk : k < 11) (hP : P1 ns k σ) :
    ∃ σ', evSs (evCall tbl 1000 (d + 1)) 1000 ph1 (sset σ 3 (I (k : Nat))) = some (.ok (.next σ')) ∧ P1 ns (k + 1) σ' := by
  obtain ⟨⟨hl, h0, h1⟩, rows, h2, hr, hrl⟩ := hP
  obtain ⟨n1, e1⟩ := ev_number d hns (k : Nat)
  obtain ⟨x, e2, hx⟩ := ev_value d n1 (k : Nat) (by omega) (by omega)
  obtain ⟨n2, e3⟩ := ev_number d hns ((k : Nat) + 11)
  obtain ⟨y, e4, hy⟩ := ev_value d n2 ((k : Nat) + 5) (by omega) (by omega)
  obtain ⟨op, ho, hs⟩ := ops_get hk
  have hin := in_tI (i := (k : Nat)) (xs := [.int 1, .int 3, .int 4, .int 5, .int 6, .int 7]) (by rfl)
  generalize anyEq (.int (k : Nat)) [.int 1, .int 3, .int 4, .int 5, .int 6, .int 7] = b at hin
  have z1 : okSize rows.length = true := decide_eq_true (by omega)
  have z2 : okSize (rows.length + 1) = true := decide_eq_true (by omega)
  have hb : Bse ns (sset (sset (sset σ 3 (I (k : Nat))) 4 (I x)) 5 (I y)) := ((Bse.set ⟨hl, h0, h1⟩ (by decide) _).set (by decide) _).set (by decide) _
  generalize hσ : (sset (sset (sset σ 3 (I (k : Nat))) 4 (I x)) 5 (I y)) = σ₂ at hb
  have g3 : sget σ₂ 3 = some (I (k : Nat)) := by rw [← hσ]; simp [ss_sget_ne, ss_sget_self, hl, ss_len]
  have g4 : sget σ₂ 4 = some (I x) := by rw [← hσ]; simp [ss_sget_ne, ss_sget_self, hl, ss_len]
  have g5 : sget σ₂ 5 = some (I y) := by rw [← hσ]; simp [ss_sget_ne, ss_sget_self, hl, ss_len]
  have g2 : sget σ₂ 2 = some (.own rows) := by rw [← hσ]; simp [ss_sget_ne, h2]
  have s1 : evS (evCall tbl 1000 (d + 1)) 1000 (.assign 4 (.call 31 [(.call 30 [(.var 0), (.var 3)]), (.var 3)])) (sset σ 3 (I (k : Nat))) = some (.ok (.next (sset (sset σ 3 (I (k : Nat))) 4 (I x)))) := by
    refine s_assign_ok ?_ rfl
    simp [ss_sget_ne, ss_sget_self, hl, h0, e1, e2]
  have s2 : evS (evCall tbl 1000 (d + 1)) 1000 (.assign 5 (.call 31 [(.call 30 [(.var 0), (.bin .Add (.var 3) (.lit (.int (11))))]), (.bin .Add (.var 3) (.lit (.int (5))))])) (sset (sset σ 3 (I (k : Nat))) 4 (I x)) = some (.ok (.next σ₂)) := by
    rw [← hσ]
    refine s_assign_ok ?_ rfl
    simp [ss_sget_ne, ss_sget_self, hl, ss_len, h0, e3, e4]
  obtain ⟨b1, b2, b3⟩ := hb
  have s3 : evS (evCall tbl 1000 (d + 1)) 1000 (.append 2 (.tup [(.sub (.var 1) (.var 3)), (.var 4), (.var 5)])) σ₂ = some (.ok (.next (sset σ₂ 2 (.own (rows ++ [.tuple [.str ⟨op.toArray⟩, .int x, .int y]]))))) := by
    rw [s_append', g2, appS_own]
    simp [b3, g3, g4, g5, hs, okSize]
    exact appv_ok (by simp) z1
  unfold ph1
  rw [ss_cons, s1, sb_next, ss_cons, s2, sb_next, ss_cons, s3, sb_next, ss_cons]
  have q2 : sget (sset σ₂ 2 (.own (rows ++ [.tuple [.str ⟨op.toArray⟩, .int x, .int y]]))) 2 = some (.own (rows ++ [.tuple [.str ⟨op.toArray⟩, .int x, .int y]])) := ss_sget_self (by rw [b1]; decide)
  have okr1 : RowOK (.tuple [.str ⟨op.toArray⟩, .int x, .int y]) := ⟨op, x, y, ho, rfl, hx, hy⟩
  have okr2 : RowOK (.tuple [.str ⟨op.toArray⟩, .int y, .int x]) := ⟨op, y, x, ho, rfl, hy, hx⟩
  have B3 : Bse ns (sset σ₂ 2 (.own (rows ++ [.tuple [.str ⟨op.toArray⟩, .int x, .int y]]))) := Bse.set ⟨b1, b2, b3⟩ (by decide) _
  cases b with
  | false =>
    refine ⟨sset σ₂ 2 (.own (rows ++ [.tuple [.str ⟨op.toArray⟩, .int x, .int y]])), ?_, B3, _, q2, ?_, by simp; omega⟩
    · simp [ss_sget_ne, g3, hin, okSize]
    · intro r h
      rcases List.mem_append.mp h with h | h
      · exact hr r h
      · rw [List.mem_singleton.mp h]; exact okr1
  | true =>
    refine ⟨sset (sset σ₂ 2 (.own (rows ++ [.tuple [.str ⟨op.toArray⟩, .int x, .int y]]))) 2 (.own (rows ++ [.tuple [.str ⟨op.toArray⟩, .int x, .int y]] ++ [.tuple [.str ⟨op.toArray⟩, .int y, .int x]])), ?_, B3.set (by decide) _, _, ss_sget_self (by rw [ss_len, b1]; decide), ?_, by simp; omega⟩
    · have ta : evT (evCall tbl 1000 (d + 1)) (.cmp .In (.var 3) (.tup [(.lit (.int (1))), (.lit (.int (3))), (.lit (.int (4))), (.lit (.int (5))), (.lit (.int (6))), (.lit (.int (7)))])) (sset σ₂ 2 (.own (rows ++ [.tuple [.str ⟨op.toArray⟩, .int x, .int y]]))) = some (.ok true) := by
        simp [ss_sget_ne, g3, hin, okSize]
      rw [s_ite, ta, eb_ok, if_pos rfl, ss_cons, s_append', q2, appS_own]
      have ev : evE (evCall tbl 1000 (d + 1)) (.tup [(.sub (.var 1) (.var 3)), (.var 5), (.var 4)]) (sset σ₂ 2 (.own (rows ++ [.tuple [.str ⟨op.toArray⟩, .int x, .int y]]))) = some (.ok (.val (.tuple [.str ⟨op.toArray⟩, .int y, .int x]))) := by
        simp [ss_sget_ne, b3, g3, g4, g5, hs, okSize]
      rw [ev, eb_ok, appv_ok (by simp) (by simpa using z2)]
      rfl
    · intro r h
      rcases List.mem_append.mp h with h | h
      · rcases List.mem_append.mp h with h | h
        · exact hr r h
        · rw [List.mem_singleton.mp h]; exact okr1
      · rw [List.mem_singleton.mp h]; exact okr2
end NP
end
section
open PySem PySem.Calls PyProof.Rows PySem.W PySem.Spec
set_option maxRecDepth 100000
namespace NP

theorem depth_strs : ∀ {ec : List PyData}, ec.all isS = true → PyData.depthAll ec = 0
  | [], _ => by rw [PyData.depthAll]
  | x :: xs, h => by
    have h := Bool.and_eq_true_iff.mp (show (isS x && xs.all isS) = true from h)
    rw [PyData.depthAll, depth_strs h.2]
    cases x <;> first | (rw [PyData.depth]; rfl) | cases h.1
theorem flat_strs : ∀ {ec : List PyData}, ec.all isS = true → flats ec = true
  | [], _ => rfl
  | x :: xs, h => by
    have h := Bool.and_eq_true_iff.mp (show (isS x && xs.all isS) = true from h)
    rw [flats_cons, flat_strs h.2, Bool.and_true]
    cases x <;> first | rfl | cases h.1
noncomputable def Same (p : PyData) : Prop := cmpop .NotEq (.val p) (.val p) = some false ∧ flat p = true
theorem same_P {c : Int} {m : Str} {ec : List PyData} (hm : PyData.strOk m = true) (he : ec.all isS = true) : Same (.tuple [.int c, .str m, .tuple ec]) := by
  constructor
  · have h1 : PyData.canLay0 (.tuple [.int c, .str m, .tuple ec]) = true := by
      show (true && (PyData.strOk m && (PyData.canLayAll0 ec && true))) = true
      rw [hm, canLay_strs he]; rfl
    have h2 : PyData.depth (.tuple [.int c, .str m, .tuple ec]) ≤ 64 := by
      rw [PyData.depth, PyData.depthAll, PyData.depthAll, PyData.depthAll, PyData.depthAll, PyData.depth, PyData.depth, PyData.depth, depth_strs he]
      decide
    show (if (SeqAt.shaped _ && SeqAt.shaped _) = true then some (PyData.eqv _ _) else none).map (!·) = _
    have h3 : SeqAt.shaped (.tuple [.int c, .str m, .tuple ec]) = true := by
      unfold SeqAt.shaped
      rw [h1, decide_eq_true h2]; rfl
    rw [h3, SeqAt.eqv_refl _ h1]
    rfl
  · rw [flat_tuple', flats_cons, flats_cons, flats_cons, flat_tuple', flat_strs he]
    rfl
theorem ofString_ok (s : String) : PyData.strOk (Str.ofString s) = true := by
  rw [Str.ofString_eq_toList]
  unfold PyData.strOk
  simp
  intro c _
  rcases c.valid with h | h
  · exact Nat.lt_trans h (by decide)
  · exact h.2
theorem same_good {s : Str} (h : PyData.strOk s = true) : Same (goodP s) := same_P h rfl
theorem same_goodI (v : Int) : Same (goodP (strI v)) := same_good (ofString_ok _)
theorem same_due {r : Option (Out TV)} (h : AS r) : ∃ p, dueM r = some (.ok (.val p)) ∧ Same p := by
  rcases h with ⟨v, rfl, _⟩ | ⟨t, ec, rfl, h1, h2⟩
  · exact ⟨_, rfl, same_goodI v⟩
  · exact ⟨_, rfl, same_P h1 h2⟩
theorem okS_app {a b : List Nat} : okS (a ++ b) = (okS a && okS b) := by unfold okS; rw [List.all_append]
theorem same_unfit {op t : List Nat} (ho : okS op = true) (ht : okS t = true) : Same (unfitP op t) := by
  have hw : okS (whatOf t) = true := by unfold whatOf; split <;> decide
  refine same_P (strOk_S ?_) ?_
  · unfold faultMsg shown
    split
    · rw [okS_app, okS_app, okS_app, okS_app, ho]; decide
    · rw [okS_app, okS_app, okS_app, okS_app, okS_app, okS_app, okS_app, ho, ht]; decide
  · show (isS cArith && (isS cDomain && (isS (.str ⟨(whatOf t).toArray⟩) && true))) = true
    rw [show isS (.str ⟨(whatOf t).toArray⟩) = true from strOk_S hw]
    decide +kernel

noncomputable def Whole (l : List Nat) (x : Int) : Prop := ∀ d, evCall tbl 1000 (d + 3) 5 [S l] = some (.ok (I x))
noncomputable def Tell (Φ : Nat → List TV → Option (Out TV)) (op : List Nat) (as : List PyData) (p : PyData) : Prop := Φ 35 [S op, .val (.tuple as)] = some (.ok (.val p))
structure Phi (Φ : Nat → List TV → Option (Out TV)) : Prop where
  number : ∀ {ns : List Int}, ns.length ≤ 63 → ∀ p, ∃ v, Φ 30 [scr ns, I p] = some (.ok (I v))
  value : ∀ n k, 0 ≤ k → k ≤ 100 → ∃ v, Φ 31 [I n, I k] = some (.ok (I v)) ∧ v.natAbs ≤ 2 ^ 66
  small : ∀ n, ∃ v, Φ 32 [I n] = some (.ok (I v)) ∧ v.natAbs ≤ 1000
  written : ∀ n way, n.natAbs ≤ 2 ^ 66 → ∃ l, Φ 33 [I n, I way] = some (.ok (S l)) ∧ okS l = true ∧ l.length ≤ 320 ∧ Whole l n
  kept : ∀ {op : List Nat} {y : Int}, op ∈ opsL → y.natAbs ≤ 2 ^ 66 → ∃ y', Φ 44 [S op, I y] = some (.ok (I y')) ∧ KeptOp op y' ∧ y'.natAbs ≤ 2 ^ 66
  junk : ∀ n, ∃ j, j < 11 ∧ Φ 34 [I n] = some (.ok (S (NP.junk j)))
  arith : ∀ {op : List Nat} {x y : Int} {a b : List Nat}, op ∈ opsL → KeptOp op y → x.natAbs ≤ 2 ^ 66 → y.natAbs ≤ 2 ^ 66 → a.length ≤ 320 → b.length ≤ 320 → Whole a x → Whole b y → ∃ p, Tell Φ op [.str ⟨a.toArray⟩, .str ⟨b.toArray⟩] p ∧ Φ 43 [S op, I x, I y] = some (.ok (.val p)) ∧ Same p
  left : ∀ {op : List Nat} {j : Nat} (b : List Nat), op ∈ opsL → j < 11 → Tell Φ op [.str ⟨(NP.junk j).toArray⟩, .str ⟨b.toArray⟩] (unfitP op (NP.junk j))
  right : ∀ {op a : List Nat} {x : Int} {j : Nat}, op ∈ opsL → a.length ≤ 320 → Whole a x → j < 11 → Tell Φ op [.str ⟨a.toArray⟩, .str ⟨(NP.junk j).toArray⟩] (unfitP op (NP.junk j))
  unfit : ∀ {op t : List Nat}, op.length ≤ 10 → t.length ≤ 1000 → Φ 37 [S op, S t] = some (.ok (.val (unfitP op t)))
  good : ∀ {v : Int}, inTop v = true → Φ 36 [I v] = some (.ok (.val (goodP (strI v))))
  goodS : ∀ s, Φ 36 [.val (.str s)] = some (.ok (.val (goodP s)))
  unNum : ∀ {k : Nat} {a : List Nat} {x : Int}, k < 4 → a.length ≤ 320 → Whole a x → x.natAbs ≤ 2 ^ 66 → Tell Φ [uOp k] [.str ⟨a.toArray⟩] (goodP (strI (uVal k x)))
  unJunk : ∀ {k j : Nat}, k < 4 → j < 11 → (k = 3 → junkB j = none) → Tell Φ [uOp k] [.str ⟨(NP.junk j).toArray⟩] (unfitP [uOp k] (NP.junk j))
  unBool : ∀ {j : Nat} {b : Bool}, j < 11 → junkB j = some b → Tell Φ [33] [.str ⟨(NP.junk j).toArray⟩] (goodP (strI (if b = true then 0 else 1)))
  cmp : ∀ {k : Nat} {a b : List Nat} {oa ob : Option Int}, k < 12 → (∀ d, evCall tbl 1000 (d + 3) 5 [S a] = some (.ok (optI oa))) → (∀ d, evCall tbl 1000 (d + 3) 5 [S b] = some (.ok (optI ob))) → Tell Φ (opC k) [.str ⟨a.toArray⟩, .str ⟨b.toArray⟩] (goodP ⟨(bitL (relB (k % 6) (ordV (decide (k < 6)) a oa b ob))).toArray⟩)
  order : ∀ (w : Bool) {a b : List Nat} (oa ob : Option Int), a.length ≤ 320 → b.length ≤ 320 → Φ 45 [.val (.tuple [.str ⟨a.toArray⟩, optD oa]), .val (.tuple [.str ⟨b.toArray⟩, optD ob]), .val (.bool w)] = some (.ok (I (ordV w a oa b ob)))
  inn : ∀ (z o : Bool) {a l : List Nat} {p : Pc} {r : List Pc}, l.length ≤ 900 → okS l = true → l = txt (p :: r) ++ tl o → p.ok → (∀ p ∈ r, p.ok ∧ p.sep ≠ []) → r.length ≤ 100 → okS a = true → (∀ q ∈ p :: r, okS q.it = true) →
    Tell Φ (if z = true then [105, 110] else [110, 105]) [.str ⟨a.toArray⟩, .str ⟨l.toArray⟩] (if o = true then failP openMsg (.tuple openEc) else goodP ⟨(bitL (anyEq (.str ⟨a.toArray⟩) (its (p :: r)) == z)).toArray⟩)
theorem phi11 : Phi (evCall tbl 1000 11) where
  number h p := ev_number 10 h p
  value n k h h' := ev_value 10 n k h h'
  small n := ev_small 10 n
  written n way h := by
    obtain ⟨l, a, b, c, d⟩ := ev_written n way (Nat.lt_of_le_of_lt h (by decide))
    exact ⟨l, a 10, b, c, d⟩
  kept h h' := ev_kept 10 h h'
  junk n := by
    obtain ⟨j, h1, _, h2⟩ := ev_junk 10 n
    exact ⟨j, h1, h2⟩
  arith ho hk hx hy ha hb wa wb := by
    obtain ⟨r, h1, h2⟩ := arith_due ho hk hx hy
    obtain ⟨p, h3, h4⟩ := same_due h1
    exact ⟨p, (bin_num (d := 5) ho (by omega) (by omega) (wa 5) (wb 5) (h2 5).1 h1).trans h3, (h2 7).2.trans h3, h4⟩
  left b ho hj := bin_left (d := 5) b ho (by have := (junk_ok hj).2; omega) (junk_whole hj 5)
  right ho ha wa hj := bin_right (d := 5) ho (by omega) (by have := (junk_ok hj).2; omega) (wa 5) (junk_whole hj 5)
  unfit h h' := ev_unfit 10 h h'
  good h := ev_goodI 10 h
  goodS s := ev_goodS 10 s
  unNum hk ha wa hx := un_num (d := 5) hk (by omega) (wa 5) hx
  unJunk hk hj h3 := un_junk (d := 5) hk hj h3
  unBool hj h3 := un_bool (d := 5) hj h3
  cmp hk wa wb := told_cmp (d := 5) hk (wa 5) (wb 5)
  order w {a b} oa ob ha hb := ev_order 10 w oa ob (by omega) (by omega)
  inn z o {a l p r} h1 h2 h3 h4 h5 h6 h7 h8 := told_in (d := 4) z o h1 h2 h3 h4 h5 h6 h7 h8
end NP
end
section
open PySem PySem.Calls PyProof.Rows PySem.W PySem.Spec
set_option maxRecDepth 100000
namespace NP

theorem addL {a b : List PyData} (h : a.length + b.length ≤ 1000) : binop .Add (.val (.list a)) (.own b) = some (.own (a ++ b)) := by
  show (if _ then _ else _) = _
  rw [if_pos h]
noncomputable def lc1 : CE := (.lst [(.tup [(.lit (.str ⟨#[47]⟩)), (.var 4), (.lit (.int (0)))]), (.tup [(.lit (.str ⟨#[37]⟩)), (.var 4), (.lit (.int (0)))]), (.tup [(.lit (.str ⟨#[42, 42]⟩)), (.lit (.int (0))), (.bin .Sub (.neg (.lit (.int (1)))) (.var 6))]), (.tup [(.lit (.str ⟨#[42, 42]⟩)), (.var 4), (.bin .Sub (.neg (.lit (.int (1)))) (.var 6))]), (.tup [(.lit (.str ⟨#[42, 42]⟩)), (.var 4), (.bin .Pow (.lit (.int (2))) (.lit (.int (28))))])])
noncomputable def lc2 : CE := (.lst [(.tup [(.lit (.str ⟨#[42, 42]⟩)), (.neg (.lit (.int (1)))), (.bin .Add (.bin .Pow (.lit (.int (2))) (.lit (.int (28)))) (.var 6))]), (.tup [(.lit (.str ⟨#[42, 42]⟩)), (.lit (.int (0))), (.var 6)]), (.tup [(.lit (.str ⟨#[42, 42]⟩)), (.neg (.lit (.int (1)))), (.neg (.var 6))]), (.tup [(.lit (.str ⟨#[60, 60]⟩)), (.var 4), (.bin .Sub (.neg (.lit (.int (1)))) (.var 6))]), (.tup [(.lit (.str ⟨#[60, 60]⟩)), (.var 4), (.bin .Pow (.lit (.int (2))) (.lit (.int (31))))])])
noncomputable def lc3 : CE := (.lst [(.tup [(.lit (.str ⟨#[60, 60]⟩)), (.lit (.int (0))), (.bin .Add (.bin .Pow (.lit (.int (2))) (.lit (.int (31)))) (.var 6))]), (.tup [(.lit (.str ⟨#[62, 62]⟩)), (.var 4), (.bin .Add (.bin .Pow (.lit (.int (2))) (.lit (.int (31)))) (.var 6))]), (.tup [(.lit (.str ⟨#[62, 62]⟩)), (.bin .Sub (.neg (.lit (.int (1)))) (.var 6)), (.var 6)])])
noncomputable def mid : List CS := [
  (.assign 4 (.call 31 [(.call 30 [(.var 0), (.lit (.int (0)))]), (.lit (.int (0)))])),
  (.assign 6 (.abs (.bin .Sub (.call 32 [(.call 30 [(.var 0), (.lit (.int (1)))])]) (.lit (.int (17)))))),
  (.assign 2 (.bin .Add (.var 2) lc1)),
  (.assign 2 (.bin .Add (.var 2) lc2)),
  (.assign 2 (.bin .Add (.var 2) lc3))]
noncomputable def rw3 (op : List Nat) (x y : Int) : PyData := .tuple [.str ⟨op.toArray⟩, .int x, .int y]
theorem rw3_ok {op : List Nat} {x y : Int} (ho : op ∈ opsL) (hx : x.natAbs ≤ 2 ^ 66) (hy : y.natAbs ≤ 2 ^ 66) : RowOK (rw3 op x y) := ⟨op, x, y, ho, rfl, hx, hy⟩
theorem all_app {P : PyData → Prop} {a b : List PyData} (ha : ∀ r ∈ a, P r) (hb : ∀ r ∈ b, P r) : ∀ r ∈ a ++ b, P r := fun r h => (List.mem_append.mp h).elim (ha r) (hb r)
theorem all_cons {P : PyData → Prop} {a : PyData} {b : List PyData} (ha : P a) (hb : ∀ r ∈ b, P r) : ∀ r ∈ a :: b, P r := fun r h => (List.mem_cons.mp h).elim (fun q => q ▸ ha) (hb r)
theorem all_nil {P : PyData → Prop} : ∀ r ∈ ([] : List PyData), P r := fun r h => by cases h
section
variable {Φ : Nat → List TV → Option (Out TV)} {σ : Store} {x n : Int}
theorem k_row {l : List Nat} {e1 e2 : CE} {a b : Int} (h1 : evE Φ e1 σ = some (.ok (I a))) (h2 : evE Φ e2 σ = some (.ok (I b))) : evE Φ (.tup [.lit (.str ⟨l.toArray⟩), e1, e2]) σ = some (.ok (.val (rw3 l a b))) := by
  rw [e_tup, k_es3 (u := .val (.str ⟨l.toArray⟩)) (by rw [e_lit]) h1 h2]; rfl
noncomputable def y1 (x n : Int) : List PyData := [rw3 [47] x 0, rw3 [37] x 0, rw3 [42, 42] 0 (-1 - n), rw3 [42, 42] x (-1 - n), rw3 [42, 42] x 268435456]
noncomputable def y2 (x n : Int) : List PyData := [rw3 [42, 42] (-1) (268435456 + n), rw3 [42, 42] 0 n, rw3 [42, 42] (-1) (-n), rw3 [60, 60] x (-1 - n), rw3 [60, 60] x 2147483648]
noncomputable def y3 (x n : Int) : List PyData := [rw3 [60, 60] 0 (2147483648 + n), rw3 [62, 62] x (2147483648 + n), rw3 [62, 62] (-1 - n) n]
theorem l_1 (q4 : sget σ 4 = some (I x)) (q6 : sget σ 6 = some (I n)) : evE Φ lc1 σ = some (.ok (.own (y1 x n))) := by
  have v4 : evE Φ (.var 4) σ = some (.ok (I x)) := by rw [e_var, q4]; rfl
  have v6 : evE Φ (.var 6) σ = some (.ok (I n)) := by rw [e_var, q6]; rfl
  have m1 : evE Φ (.bin .Sub (.neg (.lit (.int (1)))) (.var 6)) σ = some (.ok (I (-1 - n))) := k_bin (u := I (-1)) rfl v6 rfl
  have z : evE Φ (.lit (.int 0)) σ = some (.ok (I 0)) := rfl
  unfold lc1
  rw [e_lst, es_cons, k_row v4 z, eb_ok, es_cons, k_row v4 z, eb_ok, es_cons, k_row z m1, eb_ok, es_cons, k_row v4 m1, eb_ok, es_cons, k_row v4 (k_bin rfl rfl p28), eb_ok]
  rfl
theorem l_2 (q4 : sget σ 4 = some (I x)) (q6 : sget σ 6 = some (I n)) : evE Φ lc2 σ = some (.ok (.own (y2 x n))) := by
  have v4 : evE Φ (.var 4) σ = some (.ok (I x)) := by rw [e_var, q4]; rfl
  have v6 : evE Φ (.var 6) σ = some (.ok (I n)) := by rw [e_var, q6]; rfl
  have m1 : evE Φ (.bin .Sub (.neg (.lit (.int (1)))) (.var 6)) σ = some (.ok (I (-1 - n))) := k_bin (u := I (-1)) rfl v6 rfl
  have o1 : evE Φ (.neg (.lit (.int (1)))) σ = some (.ok (I (-1))) := rfl
  have z : evE Φ (.lit (.int 0)) σ = some (.ok (I 0)) := rfl
  unfold lc2
  rw [e_lst, es_cons, k_row o1 (k_bin (k_bin rfl rfl p28) v6 rfl), eb_ok, es_cons, k_row z v6, eb_ok, es_cons, k_row o1 (k_neg v6), eb_ok, es_cons, k_row v4 m1, eb_ok, es_cons, k_row v4 (k_bin rfl rfl p31), eb_ok]
  rfl
theorem l_3 (q4 : sget σ 4 = some (I x)) (q6 : sget σ 6 = some (I n)) : evE Φ lc3 σ = some (.ok (.own (y3 x n))) := by
  have v4 : evE Φ (.var 4) σ = some (.ok (I x)) := by rw [e_var, q4]; rfl
  have v6 : evE Φ (.var 6) σ = some (.ok (I n)) := by rw [e_var, q6]; rfl
  have m1 : evE Φ (.bin .Sub (.neg (.lit (.int (1)))) (.var 6)) σ = some (.ok (I (-1 - n))) := k_bin (u := I (-1)) rfl v6 rfl
  have g : evE Φ (.bin .Add (.bin .Pow (.lit (.int (2))) (.lit (.int (31)))) (.var 6)) σ = some (.ok (I (2147483648 + n))) := k_bin (k_bin rfl rfl p31) v6 rfl
  have z : evE Φ (.lit (.int 0)) σ = some (.ok (I 0)) := rfl
  unfold lc3
  rw [e_lst, es_cons, k_row z g, eb_ok, es_cons, k_row v4 g, eb_ok, es_cons, k_row m1 v6, eb_ok]
  rfl
theorem y_num (h : 0 ≤ n ∧ n ≤ 2000) : (-1 - n).natAbs ≤ 2147490000 ∧ (268435456 + n).natAbs ≤ 2147490000 ∧ n.natAbs ≤ 2147490000 ∧ (-n).natAbs ≤ 2147490000 ∧ (2147483648 + n).natAbs ≤ 2147490000 := by omega
theorem y_ok (hx : x.natAbs ≤ 2 ^ 66) (h : 0 ≤ n ∧ n ≤ 2000) : (∀ r ∈ y1 x n, RowOK r) ∧ (∀ r ∈ y2 x n, RowOK r) ∧ ∀ r ∈ y3 x n, RowOK r := by
  have bx : ∀ {z : Int}, z.natAbs ≤ 2147490000 → z.natAbs ≤ 2 ^ 66 := fun {z} h => Nat.le_trans h (by decide)
  obtain ⟨b1, b2, b3, b4, b5⟩ := y_num h
  refine ⟨?_, ?_, ?_⟩
  · exact all_cons (rw3_ok (by decide) hx (by decide)) (all_cons (rw3_ok (by decide) hx (by decide)) (all_cons (rw3_ok (by decide) (by decide) (bx b1)) (all_cons (rw3_ok (by decide) hx (bx b1)) (all_cons (rw3_ok (by decide) hx (by decide)) all_nil))))
  · exact all_cons (rw3_ok (by decide) (by decide) (bx b2)) (all_cons (rw3_ok (by decide) (by decide) (bx b3)) (all_cons (rw3_ok (by decide) (by decide) (bx b4)) (all_cons (rw3_ok (by decide) hx (bx b1)) (all_cons (rw3_ok (by decide) hx (by decide)) all_nil))))
  · exact all_cons (rw3_ok (by decide) (by decide) (bx b5)) (all_cons (rw3_ok (by decide) hx (bx b5)) (all_cons (rw3_ok (by decide) (bx b1) (bx b3)) all_nil))
theorem y_len (x n : Int) {rows : List PyData} (h : rows.length ≤ 22) : (rows.length + (y1 x n).length ≤ 1000 ∧ (rows ++ y1 x n).length + (y2 x n).length ≤ 1000) ∧ (rows ++ y1 x n ++ y2 x n).length + (y3 x n).length ≤ 1000 ∧ (rows ++ y1 x n ++ y2 x n ++ y3 x n).length ≤ 40 := by
  simp only [List.length_append, show (y1 x n).length = 5 from rfl, show (y2 x n).length = 5 from rfl, show (y3 x n).length = 3 from rfl]
  omega
end
theorem mid_ok {Φ : Nat → List TV → Option (Out TV)} (H : Phi Φ) {ns : List Int} (hns : ns.length ≤ 63) {σ : Store} (hP : P1 ns 11 σ) :
    ∃ σ' rows, evSs Φ 1000 mid σ = some (.ok (.next σ')) ∧ Bse ns σ' ∧ sget σ' 2 = some (.own rows) ∧ (∀ r ∈ rows, RowOK r) ∧ rows.length ≤ 40 := by
  obtain ⟨⟨hl, h0, h1⟩, rows, h2, hr, hrl⟩ := hP
  obtain ⟨n1, e1⟩ := H.number hns 0
  obtain ⟨x, e2, hx⟩ := H.value n1 0 (by decide) (by decide)
  obtain ⟨n2, e3⟩ := H.number hns 1
  obtain ⟨v, e4, hv⟩ := H.small n2
  obtain ⟨n, hn⟩ : ∃ n : Int, n = ((v - 17).natAbs : Nat) := ⟨_, rfl⟩
  have hn0 : 0 ≤ n ∧ n ≤ 2000 := by omega
  have s1 : evS Φ 1000 (.assign 4 (.call 31 [(.call 30 [(.var 0), (.lit (.int (0)))]), (.lit (.int (0)))])) σ = some (.ok (.next (sset σ 4 (I x)))) := by
    refine s_assign_ok ?_ rfl
    simp [h0, e1, e2]
  have s2 : evS Φ 1000 (.assign 6 (.abs (.bin .Sub (.call 32 [(.call 30 [(.var 0), (.lit (.int (1)))])]) (.lit (.int (17)))))) (sset σ 4 (I x)) = some (.ok (.next (sset (sset σ 4 (I x)) 6 (I n)))) := by
    refine s_assign_ok ?_ rfl
    simp [ss_sget_ne, h0, e3, e4, abs_I, hn]
  have hb : Bse ns (sset (sset σ 4 (I x)) 6 (I n)) := (Bse.set ⟨hl, h0, h1⟩ (by decide) _).set (by decide) _
  generalize hσ : sset (sset σ 4 (I x)) 6 (I n) = σ₂ at hb s2
  have g4 : sget σ₂ 4 = some (I x) := by rw [← hσ]; simp [ss_sget_ne, ss_sget_self, hl]
  have g6 : sget σ₂ 6 = some (I n) := by rw [← hσ]; simp [ss_sget_self, hl, ss_len]
  have g2 : sget σ₂ 2 = some (.own rows) := by rw [← hσ]; simp [ss_sget_ne, h2]
  have L := y_len x n (rows := rows) hrl
  obtain ⟨ok1, ok2, ok3⟩ := y_ok hx hn0
  have a1 := addL L.1.1
  have a2 := addL L.1.2
  have a3 := addL L.2.1
  have ln := L.2.2
  have l1 : ∀ σ, sget σ 4 = some (I x) → sget σ 6 = some (I n) → evE Φ lc1 σ = some (.ok (.own (y1 x n))) := fun σ q4 q6 => l_1 q4 q6
  have l2 : ∀ σ, sget σ 4 = some (I x) → sget σ 6 = some (I n) → evE Φ lc2 σ = some (.ok (.own (y2 x n))) := fun σ q4 q6 => l_2 q4 q6
  have l3 : ∀ σ, sget σ 4 = some (I x) → sget σ 6 = some (I n) → evE Φ lc3 σ = some (.ok (.own (y3 x n))) := fun σ q4 q6 => l_3 q4 q6
  clear L
  generalize y1 x n = y1, y2 x n = y2, y3 x n = y3 at *
  obtain ⟨b1, b2, b3⟩ := hb
  refine ⟨sset (sset (sset σ₂ 2 (.own (rows ++ y1))) 2 (.own (rows ++ y1 ++ y2))) 2 (.own (rows ++ y1 ++ y2 ++ y3)), rows ++ y1 ++ y2 ++ y3, ?_, ((Bse.set ⟨b1, b2, b3⟩ (by decide) _).set (by decide) _).set (by decide) _, ss_sget_self (by simp [ss_len, b1]), all_app (all_app (all_app hr ok1) ok2) ok3, ln⟩
  unfold mid
  rw [ss_cons, s1, sb_next, ss_cons, s2, sb_next]
  have t1 : evS Φ 1000 (.assign 2 (.bin .Add (.var 2) lc1)) σ₂ = some (.ok (.next (sset σ₂ 2 (.own (rows ++ y1))))) := by
    refine s_assign_ok ?_ rfl
    rw [e_bin, e_var, g2, l1 σ₂ g4 g6]
    simp only [Option.map_some, view_own, lift_some, eb_ok, a1]
  have t2 : evS Φ 1000 (.assign 2 (.bin .Add (.var 2) lc2)) (sset σ₂ 2 (.own (rows ++ y1))) = some (.ok (.next (sset (sset σ₂ 2 (.own (rows ++ y1))) 2 (.own (rows ++ y1 ++ y2))))) := by
    refine s_assign_ok ?_ rfl
    rw [e_bin, e_var, ss_sget_self (by rw [b1]; decide), l2 _ (by rw [ss_sget_ne (by decide)]; exact g4) (by rw [ss_sget_ne (by decide)]; exact g6)]
    simp only [Option.map_some, view_own, lift_some, eb_ok, a2]
  have t3 : evS Φ 1000 (.assign 2 (.bin .Add (.var 2) lc3)) (sset (sset σ₂ 2 (.own (rows ++ y1))) 2 (.own (rows ++ y1 ++ y2))) = some (.ok (.next (sset (sset (sset σ₂ 2 (.own (rows ++ y1))) 2 (.own (rows ++ y1 ++ y2))) 2 (.own (rows ++ y1 ++ y2 ++ y3))))) := by
    refine s_assign_ok ?_ rfl
    rw [e_bin, e_var, ss_sget_self (by rw [ss_len, b1]; decide), l3 _ (by rw [ss_sget_ne (by decide), ss_sget_ne (by decide)]; exact g4) (by rw [ss_sget_ne (by decide), ss_sget_ne (by decide)]; exact g6)]
    simp only [Option.map_some, view_own, lift_some, eb_ok, a3]
  rw [ss_cons, t1, sb_next, ss_cons, t2, sb_next, ss_cons, t3, sb_next, ss_nil]

noncomputable def ph2 : List CS := [
    (.assignT [7, 4, 5] (.sub (.var 2) (.var 3))),
    (.assign 5 (.call 44 [(.var 7), (.var 5)])),
    (.assign 8 (.call 30 [(.var 0), (.var 3)])),
    (.ite (.cmp .NotEq (.call 35 [(.var 7), (.tup [(.call 33 [(.var 4), (.bin .Add (.var 8) (.var 3))]), (.call 33 [(.var 5), (.bin .Add (.bin .FloorDiv (.var 8) (.lit (.int (60)))) (.bin .Mult (.lit (.int (2))) (.var 3)))])])]) (.call 43 [(.var 7), (.var 4), (.var 5)])) [
      (.ret (.lit (.bool false)))] [])]
noncomputable def P2 (ns : List Int) (rows : List PyData) (_ : Nat) (σ : Store) : Prop := Bse ns σ ∧ sget σ 2 = some (.own rows)
theorem div60 (a : Int) : binop .FloorDiv (I a) (.val (.int 60)) = some (I (a.fdiv 60)) := div_I (by decide) (by decide +kernel)
theorem ite_no {Φ : Nat → List TV → Option (Out TV)} {t : CE} {a : List CS} {σ : Store} (h : evT Φ t σ = some (.ok false)) : evS Φ 1000 (.ite t a []) σ = some (.ok (.next σ)) := by
  rw [s_ite, h, eb_ok, if_neg (by decide), ss_nil]
theorem ph2_turn {Φ : Nat → List TV → Option (Out TV)} (H : Phi Φ) {ns : List Int} (hns : ns.length ≤ 63) {rows : List PyData} (hr : ∀ r ∈ rows, RowOK r) (hl40 : rows.length ≤ 40) (k : Nat) (σ : Store) (hk : k < rows.length) (hP : P2 ns rows k σ) :
    ∃ σ', evSs Φ 1000 ph2 (sset σ 3 (I (k : Nat))) = some (.ok (.next σ')) ∧ P2 ns rows (k + 1) σ' := by
  obtain ⟨⟨hl, h0, h1⟩, h2⟩ := hP
  obtain ⟨op, x, y, ho, hrow, hx, hy⟩ := hr rows[k] (List.getElem_mem hk)
  have hs := sub_L (xs := rows) (k := k) (d := rows[k]) (List.getElem?_eq_getElem hk) (by omega)
  rw [hrow] at hs
  obtain ⟨y', e1, hk', hy'⟩ := H.kept ho hy
  obtain ⟨way, e2⟩ := H.number hns (k : Nat)
  obtain ⟨la, f1, f2, f3, f4⟩ := H.written x (way + k) hx
  obtain ⟨lb, g1, g2, g3, g4⟩ := H.written y' (way.fdiv 60 + 2 * k) hy'
  obtain ⟨p, q1, q2, q3, q4⟩ := H.arith ho hk' hx hy' f3 g3 f4 g4
  have hm : binop .Mult (.val (.int 2)) (I (k : Nat)) = some (I (2 * k)) := mulL2_I (top_of (k := 10) (by omega) (by decide))
  refine ⟨sset (sset (sset (sset (sset (sset σ 3 (I (k : Nat))) 7 (S op)) 4 (I x)) 5 (I y)) 5 (I y')) 8 (I way), ?_, ?_⟩
  · unfold ph2
    have s1 : evS Φ 1000 (.assignT [7, 4, 5] (.sub (.var 2) (.var 3))) (sset σ 3 (I (k : Nat))) = some (.ok (.next (sset (sset (sset (sset σ 3 (I (k : Nat))) 7 (S op)) 4 (I x)) 5 (I y)))) := by
      simp [ss_sget_ne, ss_sget_self, hl, h2, hs]
    have s2 : evS Φ 1000 (.assign 5 (.call 44 [(.var 7), (.var 5)])) (sset (sset (sset (sset σ 3 (I (k : Nat))) 7 (S op)) 4 (I x)) 5 (I y)) = some (.ok (.next (sset (sset (sset (sset (sset σ 3 (I (k : Nat))) 7 (S op)) 4 (I x)) 5 (I y)) 5 (I y')))) := by
      refine s_assign_ok ?_ rfl
      simp [ss_sget_ne, ss_sget_self, hl, ss_len, e1]
    have s3 : evS Φ 1000 (.assign 8 (.call 30 [(.var 0), (.var 3)])) (sset (sset (sset (sset (sset σ 3 (I (k : Nat))) 7 (S op)) 4 (I x)) 5 (I y)) 5 (I y')) = some (.ok (.next (sset (sset (sset (sset (sset (sset σ 3 (I (k : Nat))) 7 (S op)) 4 (I x)) 5 (I y)) 5 (I y')) 8 (I way)))) := by
      refine s_assign_ok ?_ rfl
      simp [ss_sget_ne, ss_sget_self, hl, ss_len, h0, e2]
    rw [ss_cons, s1, sb_next, ss_cons, s2, sb_next, ss_cons, s3, sb_next, ss_cons, ite_no, sb_next, ss_nil]
    unfold Tell at q1
    simp [ss_sget_ne, ss_sget_self, hl, ss_len, f1, div60, hm, g1, okSize, q1, q2, q3]
  · exact ⟨((((((Bse.set ⟨hl, h0, h1⟩ (by decide) _).set (by decide) _).set (by decide) _).set (by decide) _).set (by decide) _).set (by decide) _), by simp [ss_sget_ne, h2]⟩
end NP
end
section
open PySem PySem.Calls PyProof.Rows PySem.W PySem.Spec
set_option maxRecDepth 100000
namespace NP

noncomputable def ph3 : List CS := [
    (.assign 10 (.call 30 [(.var 0), (.var 9)])),
    (.assign 7 (.sub (.var 1) (.bin .Mod (.bin .Add (.var 10) (.bin .Mult (.lit (.int (2))) (.var 9))) (.lit (.int (11)))))),
    (.assign 11 (.bin .Mod (.bin .Add (.bin .FloorDiv (.var 10) (.lit (.int (11)))) (.var 9)) (.lit (.int (3))))),
    (.assign 12 (.call 34 [(.bin .Add (.bin .FloorDiv (.var 10) (.lit (.int (33)))) (.var 9))])),
    (.assign 13 (.call 34 [(.bin .Add (.bin .Add (.bin .FloorDiv (.var 10) (.lit (.int (5)))) (.bin .Mult (.lit (.int (3))) (.var 9))) (.lit (.int (1))))])),
    (.ite (.cmp .Eq (.var 11) (.lit (.int (1)))) [
      (.assign 12 (.call 33 [(.call 31 [(.var 10), (.var 9)]), (.var 9)]))] []),
    (.ite (.cmp .Eq (.var 11) (.lit (.int (0)))) [
      (.assign 13 (.call 33 [(.call 31 [(.var 10), (.var 9)]), (.var 9)]))] []),
    (.ite (.cmp .NotEq (.call 35 [(.var 7), (.tup [(.var 12), (.var 13)])]) (.call 37 [(.var 7), (.ife (.cmp .Eq (.var 11) (.lit (.int (1)))) (.var 13) (.var 12))])) [
      (.ret (.lit (.bool false)))] [])]
noncomputable def PB (ns : List Int) (_ : Nat) (σ : Store) : Prop := Bse ns σ
theorem divK (a b : Int) (h : 0 < b) (h2 : b ≤ 1000) : binop .FloorDiv (I a) (.val (.int b)) = some (I (a.fdiv b)) := div_I (by omega) (top_of (k := 10) (by omega) (by decide))
theorem modK (a b : Int) (h : 0 < b) : binop .Mod (I a) (.val (.int b)) = some (I (a.fmod b)) := mod_I (by omega)
theorem op_ok {op : List Nat} (ho : op ∈ opsL) : okS op = true := by
  have : ∀ l ∈ opsL, okS l = true := by decide
  exact this op ho
theorem ph3_turn {Φ : Nat → List TV → Option (Out TV)} (H : Phi Φ) {ns : List Int} (hns : ns.length ≤ 63) (k : Nat) (σ : Store) (hk : k < 6) (hP : PB ns k σ) :
    ∃ σ', evSs Φ 1000 ph3 (sset σ 9 (I (k : Nat))) = some (.ok (.next σ')) ∧ PB ns (k + 1) σ' := by
  obtain ⟨hl, h0, h1⟩ := hP
  obtain ⟨n, e1⟩ := H.number hns (k : Nat)
  have hm2 : binop .Mult (.val (.int 2)) (I (k : Nat)) = some (I (2 * k)) := mulL2_I (top_of (k := 10) (by omega) (by decide))
  have hm3 : binop .Mult (.val (.int 3)) (I (k : Nat)) = some (I (3 * k)) := mul_I (by decide +kernel) (top_of (k := 10) (by omega) (by decide))
  obtain ⟨o, o1, o2⟩ := fmod_nat (n + 2 * k) (m := 11) (by decide)
  obtain ⟨op, ho, hop⟩ := ops_get o1
  have m11 := modK (n + 2 * k) 11 (by decide)
  rw [show (n + 2 * k).fmod 11 = (o : Int) from o2] at m11
  have d11 := divK n 11 (by decide) (by decide)
  have d33 := divK n 33 (by decide) (by decide)
  have d5 := divK n 5 (by decide) (by decide)
  obtain ⟨w, w1, w2⟩ := fmod_nat (n.fdiv 11 + k) (m := 3) (by decide)
  have m3 := modK (n.fdiv 11 + k) 3 (by decide)
  rw [show (n.fdiv 11 + k).fmod 3 = (w : Int) from w2] at m3
  obtain ⟨j, j1, j2⟩ := H.junk (n.fdiv 33 + k)
  obtain ⟨i, i1, i2⟩ := H.junk (n.fdiv 5 + 3 * k + 1)
  obtain ⟨v, v1, v2⟩ := H.value n (k : Nat) (by omega) (by omega)
  obtain ⟨l, l1, l2, l3, l4⟩ := H.written v (k : Nat) v2
  have jo := junk_ok j1
  have io := junk_ok i1
  have oo := op_ok ho
  have ol := op_len ho
  obtain ⟨σ5, hσ5⟩ : ∃ s, s = sset (sset (sset (sset (sset (sset σ 9 (I (k : Nat))) 10 (I n)) 7 (S op)) 11 (I (w : Nat))) 12 (S (junk j))) 13 (S (junk i)) := ⟨_, rfl⟩
  have B5 : Bse ns σ5 := hσ5 ▸ (((((Bse.set ⟨hl, h0, h1⟩ (by decide) _).set (by decide) _).set (by decide) _).set (by decide) _).set (by decide) _).set (by decide) _
  have five : evSs Φ 1000 (ph3.take 5) (sset σ 9 (I (k : Nat))) = some (.ok (.next σ5)) := by
    have s1 : evS Φ 1000 (.assign 10 (.call 30 [(.var 0), (.var 9)])) (sset σ 9 (I (k : Nat))) = some (.ok (.next (sset (sset σ 9 (I (k : Nat))) 10 (I n)))) := by
      refine s_assign_ok ?_ rfl
      simp [ss_sget_ne, ss_sget_self, hl, ss_len, h0, e1]
    have s2 : evS Φ 1000 (.assign 7 (.sub (.var 1) (.bin .Mod (.bin .Add (.var 10) (.bin .Mult (.lit (.int (2))) (.var 9))) (.lit (.int (11)))))) (sset (sset σ 9 (I (k : Nat))) 10 (I n)) = some (.ok (.next (sset (sset (sset σ 9 (I (k : Nat))) 10 (I n)) 7 (S op)))) := by
      refine s_assign_ok ?_ rfl
      simp [ss_sget_ne, ss_sget_self, hl, ss_len, h1, hm2, m11, hop]
    have s3 : evS Φ 1000 (.assign 11 (.bin .Mod (.bin .Add (.bin .FloorDiv (.var 10) (.lit (.int (11)))) (.var 9)) (.lit (.int (3))))) (sset (sset (sset σ 9 (I (k : Nat))) 10 (I n)) 7 (S op)) = some (.ok (.next (sset (sset (sset (sset σ 9 (I (k : Nat))) 10 (I n)) 7 (S op)) 11 (I (w : Nat))))) := by
      refine s_assign_ok ?_ rfl
      simp [ss_sget_ne, ss_sget_self, hl, ss_len, d11, m3]
    have s4 : evS Φ 1000 (.assign 12 (.call 34 [(.bin .Add (.bin .FloorDiv (.var 10) (.lit (.int (33)))) (.var 9))])) (sset (sset (sset (sset σ 9 (I (k : Nat))) 10 (I n)) 7 (S op)) 11 (I (w : Nat))) = some (.ok (.next (sset (sset (sset (sset (sset σ 9 (I (k : Nat))) 10 (I n)) 7 (S op)) 11 (I (w : Nat))) 12 (S (junk j))))) := by
      refine s_assign_ok ?_ rfl
      simp [ss_sget_ne, ss_sget_self, hl, ss_len, d33, j2]
    have s5 : evS Φ 1000 (.assign 13 (.call 34 [(.bin .Add (.bin .Add (.bin .FloorDiv (.var 10) (.lit (.int (5)))) (.bin .Mult (.lit (.int (3))) (.var 9))) (.lit (.int (1))))])) (sset (sset (sset (sset (sset σ 9 (I (k : Nat))) 10 (I n)) 7 (S op)) 11 (I (w : Nat))) 12 (S (junk j))) = some (.ok (.next σ5)) := by
      rw [hσ5]
      refine s_assign_ok ?_ rfl
      simp [ss_sget_ne, ss_sget_self, hl, ss_len, d5, hm3, i2]
    show evSs Φ 1000 [_, _, _, _, _] _ = _
    rw [ss_cons, s1, sb_next, ss_cons, s2, sb_next, ss_cons, s3, sb_next, ss_cons, s4, sb_next, ss_cons, s5, sb_next, ss_nil]
  have q7 : sget σ5 7 = some (S op) := by rw [hσ5]; simp [ss_sget_ne, ss_sget_self, hl, ss_len]
  have q9 : sget σ5 9 = some (I (k : Nat)) := by rw [hσ5]; simp [ss_sget_ne, ss_sget_self, hl, ss_len]
  have q10 : sget σ5 10 = some (I n) := by rw [hσ5]; simp [ss_sget_ne, ss_sget_self, hl, ss_len]
  have q11 : sget σ5 11 = some (I (w : Nat)) := by rw [hσ5]; simp [ss_sget_ne, ss_sget_self, hl, ss_len]
  have q12 : sget σ5 12 = some (S (junk j)) := by rw [hσ5]; simp [ss_sget_ne, ss_sget_self, hl, ss_len]
  have q13 : sget σ5 13 = some (S (junk i)) := by rw [hσ5]; simp [ss_sget_ne, ss_sget_self, hl, ss_len]
  have hb5 : σ5.length = 30 := B5.1
  have split : ∀ σ, evSs Φ 1000 ph3 σ = sbindQ (evSs Φ 1000 (ph3.take 5) σ) (evSs Φ 1000 (ph3.drop 5)) := fun σ => by
    rw [← ss_append, List.take_append_drop]
  rw [split, five, sb_next]
  clear split five
  clear hσ5
  have last : ∀ σ a b t, sget σ 7 = some (S op) → sget σ 11 = some (I (w : Nat)) → sget σ 12 = some (S a) → sget σ 13 = some (S b) → (if w = 1 then b else a) = t → t.length ≤ 1000 → okS t = true → Tell Φ op [.str ⟨a.toArray⟩, .str ⟨b.toArray⟩] (unfitP op t) →
      evS Φ 1000 (.ite (.cmp .NotEq (.call 35 [(.var 7), (.tup [(.var 12), (.var 13)])]) (.call 37 [(.var 7), (.ife (.cmp .Eq (.var 11) (.lit (.int (1)))) (.var 13) (.var 12))])) [
      (.ret (.lit (.bool false)))] []) σ = some (.ok (.next σ)) := by
    intro σ a b t z7 z11 z12 z13 ht htl hto hT
    apply ite_no
    have hu := H.unfit (op := op) ol htl
    have hsame := (same_unfit oo hto).1
    unfold Tell at hT
    by_cases h1 : w = 1
    · rw [if_pos h1] at ht
      subst ht
      have : (w : Int) = 1 := by omega
      simp [z7, z11, z12, z13, okSize, hT, this, hu, hsame]
    · rw [if_neg h1] at ht
      subst ht
      have : ¬ (w : Int) = 1 := by omega
      simp [z7, z11, z12, z13, okSize, hT, this, hu, hsame]
  show ∃ σ', evSs Φ 1000 [_, _, _] σ5 = _ ∧ _
  obtain rfl | rfl | rfl : w = 0 ∨ w = 1 ∨ w = 2 := lt3 (by first | assumption | omega)
  · refine ⟨sset σ5 13 (S l), ?_, B5.set (by decide) _⟩
    rw [ss_cons, ite_no (by simp [q11]), sb_next, ss_cons]
    have : evS Φ 1000 (.ite (.cmp .Eq (.var 11) (.lit (.int (0)))) [(.assign 13 (.call 33 [(.call 31 [(.var 10), (.var 9)]), (.var 9)]))] []) σ5 = some (.ok (.next (sset σ5 13 (S l)))) := by
      simp [q11, q10, q9, v1, l1]
    rw [this, sb_next, ss_cons, last (sset σ5 13 (S l)) (junk j) l (junk j) (by simp [ss_sget_ne, q7]) (by simp [ss_sget_ne, q11]) (by simp [ss_sget_ne, q12]) (ss_sget_self (by rw [hb5]; decide)) rfl (by omega) jo.1 (H.left l ho j1), sb_next, ss_nil]
  · refine ⟨sset σ5 12 (S l), ?_, B5.set (by decide) _⟩
    have : evS Φ 1000 (.ite (.cmp .Eq (.var 11) (.lit (.int (1)))) [(.assign 12 (.call 33 [(.call 31 [(.var 10), (.var 9)]), (.var 9)]))] []) σ5 = some (.ok (.next (sset σ5 12 (S l)))) := by
      simp [q11, q10, q9, v1, l1]
    rw [ss_cons, this, sb_next, ss_cons, ite_no (by simp [ss_sget_ne, q11]), sb_next, ss_cons, last (sset σ5 12 (S l)) l (junk i) (junk i) (by simp [ss_sget_ne, q7]) (by simp [ss_sget_ne, q11]) (ss_sget_self (by rw [hb5]; decide)) (by simp [ss_sget_ne, q13]) rfl (by omega) io.1 (H.right ho l3 l4 i1), sb_next, ss_nil]
  · refine ⟨σ5, ?_, B5⟩
    rw [ss_cons, ite_no (by simp [q11]), sb_next, ss_cons, ite_no (by simp [q11]), sb_next, ss_cons, last σ5 (junk j) (junk i) (junk j) q7 q11 q12 q13 rfl (by omega) jo.1 (H.left (junk i) ho j1), sb_next, ss_nil]

noncomputable def ph4 : List CS := [
    (.assign 10 (.call 30 [(.var 0), (.var 9)])),
    (.assign 7 (.sub (.lit (.str ⟨#[45, 43, 126, 33, 33, 33]⟩)) (.var 9))),
    (.assign 4 (.ife (.cmp .Eq (.var 9) (.lit (.int (5)))) (.lit (.int (0))) (.call 31 [(.var 10), (.bin .Add (.var 9) (.lit (.int (3))))]))),
    (.assign 14 (.call 36 [(.sub (.tup [(.neg (.var 4)), (.var 4), (.bin .Sub (.neg (.var 4)) (.lit (.int (1)))), (.ife (.cmp .Eq (.var 4) (.lit (.int (0)))) (.lit (.int (1))) (.lit (.int (0))))]) (.min2 (.var 9) (.lit (.int (3)))))])),
    (.ite (.cmp .NotEq (.call 35 [(.var 7), (.tup [(.call 33 [(.var 4), (.bin .Add (.var 10) (.var 9))])])]) (.var 14)) [
      (.ret (.lit (.bool false)))] []),
    (.assign 15 (.call 34 [(.bin .Add (.bin .Add (.var 10) (.var 9)) (.lit (.int (1))))])),
    (.assign 14 (.call 37 [(.var 7), (.var 15)])),
    (.ite (.boolop true [(.cmp .Eq (.var 7) (.lit (.str ⟨#[33]⟩))), (.cmp .In (.var 15) (.tup [(.lit (.str ⟨#[116, 82, 117, 101]⟩)), (.lit (.str ⟨#[79, 70, 70]⟩)), (.lit (.str ⟨#[110]⟩))]))]) [
      (.assign 14 (.call 36 [(.ife (.cmp .Eq (.var 15) (.lit (.str ⟨#[116, 82, 117, 101]⟩))) (.lit (.int (0))) (.lit (.int (1))))]))] []),
    (.ite (.cmp .NotEq (.call 35 [(.var 7), (.tup [(.var 15)])]) (.var 14)) [
      (.ret (.lit (.bool false)))] [])]
theorem ph4_turn {Φ : Nat → List TV → Option (Out TV)} (H : Phi Φ) {ns : List Int} (hns : ns.length ≤ 63) (k : Nat) (σ : Store) (hk : k < 6) (hP : PB ns k σ) :
    ∃ σ', evSs Φ 1000 ph4 (sset σ 9 (I (k : Nat))) = some (.ok (.next σ')) ∧ PB ns (k + 1) σ' := by
  obtain ⟨hl, h0, h1⟩ := hP
  obtain ⟨n, e1⟩ := H.number hns (k : Nat)
  obtain ⟨x, hx, hxe⟩ : ∃ x : Int, x.natAbs ≤ 2 ^ 66 ∧ ∀ σ, sget σ 9 = some (I (k : Nat)) → sget σ 10 = some (I n) → evE Φ (.ife (.cmp .Eq (.var 9) (.lit (.int (5)))) (.lit (.int (0))) (.call 31 [(.var 10), (.bin .Add (.var 9) (.lit (.int (3))))])) σ = some (.ok (I x)) := by
    by_cases h5 : k = 5
    · subst h5
      exact ⟨0, by decide, fun σ q9 q10 => by simp [q9]⟩
    · obtain ⟨x, a, b⟩ := H.value n ((k : Nat) + 3) (by omega) (by omega)
      have h5' : ¬ (k : Int) = 5 := by omega
      exact ⟨x, b, fun σ q9 q10 => by simp [q9, q10, h5', a]⟩
  obtain ⟨m, m1, m2, m3⟩ : ∃ m : Nat, m < 4 ∧ (m : Int) = (if (3 : Int) < (k : Int) then 3 else (k : Int)) ∧ subop (S [45, 43, 126, 33, 33, 33]) (I (k : Nat)) = some (S [uOp m]) := by
    have : k = 0 ∨ k = 1 ∨ k = 2 ∨ k = 3 ∨ k = 4 ∨ k = 5 := lt6 (by first | assumption | omega)
    rcases this with rfl | rfl | rfl | rfl | rfl | rfl
    · exact ⟨0, by decide, by decide, rfl⟩
    · exact ⟨1, by decide, by decide, rfl⟩
    · exact ⟨2, by decide, by decide, rfl⟩
    · exact ⟨3, by decide, by decide, rfl⟩
    · exact ⟨3, by decide, by decide, rfl⟩
    · exact ⟨3, by decide, by decide, rfl⟩
  have hT : inTop (uVal m x) = true := by
    refine top_of (k := 67) ?_ (by decide)
    unfold uVal
    repeat' split
    all_goals omega
  have hgd := H.good hT
  have hus : subop (.val (.tuple [.int (-x), .int x, .int (-x - 1), .int (if x = 0 then 1 else 0)])) (I (m : Nat)) = some (I (uVal m x)) := by
    obtain rfl | rfl | rfl | rfl : m = 0 ∨ m = 1 ∨ m = 2 ∨ m = 3 := lt4 (by first | assumption | omega)
    all_goals exact sub_T rfl (by simp)
  have hmin := min_I (k : Nat) 3
  rw [← m2] at hmin
  obtain ⟨l, l1, l2, l3, l4⟩ := H.written x (n + k) hx
  have t1 := H.unNum m1 l3 l4 hx
  have sg := same_goodI (uVal m x)
  obtain ⟨j, j1, j2⟩ := H.junk (n + k + 1)
  have jo := junk_ok j1
  obtain ⟨σ4, hσ4⟩ : ∃ s, s = sset (sset (sset (sset (sset σ 9 (I (k : Nat))) 10 (I n)) 7 (S [uOp m])) 4 (I x)) 14 (.val (goodP (strI (uVal m x)))) := ⟨_, rfl⟩
  have B4 : Bse ns σ4 := hσ4 ▸ ((((Bse.set ⟨hl, h0, h1⟩ (by decide) _).set (by decide) _).set (by decide) _).set (by decide) _).set (by decide) _
  have four : evSs Φ 1000 (ph4.take 4) (sset σ 9 (I (k : Nat))) = some (.ok (.next σ4)) := by
    have s1 : evS Φ 1000 (.assign 10 (.call 30 [(.var 0), (.var 9)])) (sset σ 9 (I (k : Nat))) = some (.ok (.next (sset (sset σ 9 (I (k : Nat))) 10 (I n)))) := by
      refine s_assign_ok ?_ rfl
      simp [ss_sget_ne, ss_sget_self, hl, ss_len, h0, e1]
    have s2 : evS Φ 1000 (.assign 7 (.sub (.lit (.str ⟨#[45, 43, 126, 33, 33, 33]⟩)) (.var 9))) (sset (sset σ 9 (I (k : Nat))) 10 (I n)) = some (.ok (.next (sset (sset (sset σ 9 (I (k : Nat))) 10 (I n)) 7 (S [uOp m])))) := by
      refine s_assign_ok ?_ rfl
      simp [ss_sget_ne, ss_sget_self, hl, ss_len, m3]
    have s3 : evS Φ 1000 (.assign 4 (.ife (.cmp .Eq (.var 9) (.lit (.int (5)))) (.lit (.int (0))) (.call 31 [(.var 10), (.bin .Add (.var 9) (.lit (.int (3))))]))) (sset (sset (sset σ 9 (I (k : Nat))) 10 (I n)) 7 (S [uOp m])) = some (.ok (.next (sset (sset (sset (sset σ 9 (I (k : Nat))) 10 (I n)) 7 (S [uOp m])) 4 (I x)))) := by
      refine s_assign_ok (hxe _ ?_ ?_) rfl
      · simp [ss_sget_ne, ss_sget_self, hl, ss_len]
      · simp [ss_sget_ne, ss_sget_self, hl, ss_len]
    have s4 : evS Φ 1000 (.assign 14 (.call 36 [(.sub (.tup [(.neg (.var 4)), (.var 4), (.bin .Sub (.neg (.var 4)) (.lit (.int (1)))), (.ife (.cmp .Eq (.var 4) (.lit (.int (0)))) (.lit (.int (1))) (.lit (.int (0))))]) (.min2 (.var 9) (.lit (.int (3)))))])) (sset (sset (sset (sset σ 9 (I (k : Nat))) 10 (I n)) 7 (S [uOp m])) 4 (I x)) = some (.ok (.next σ4)) := by
      rw [hσ4]
      refine s_assign_ok ?_ sg.2
      by_cases hx0 : x = 0
      · rw [if_pos hx0] at hus
        simp [ss_sget_ne, ss_sget_self, hl, ss_len, okSize, hmin, hx0] at hus ⊢
        rw [hx0] at hgd
        simp [hus, hgd, hx0]
      · rw [if_neg hx0] at hus
        simp [ss_sget_ne, ss_sget_self, hl, ss_len, okSize, hmin, hx0, hus, hgd]
    show evSs Φ 1000 [_, _, _, _] _ = _
    rw [ss_cons, s1, sb_next, ss_cons, s2, sb_next, ss_cons, s3, sb_next, ss_cons, s4, sb_next, ss_nil]
  have q4 : sget σ4 4 = some (I x) := by rw [hσ4]; simp [ss_sget_ne, ss_sget_self, hl, ss_len]
  have q7 : sget σ4 7 = some (S [uOp m]) := by rw [hσ4]; simp [ss_sget_ne, ss_sget_self, hl, ss_len]
  have q9 : sget σ4 9 = some (I (k : Nat)) := by rw [hσ4]; simp [ss_sget_ne, ss_sget_self, hl, ss_len]
  have q10 : sget σ4 10 = some (I n) := by rw [hσ4]; simp [ss_sget_ne, ss_sget_self, hl, ss_len]
  have q14 : sget σ4 14 = some (.val (goodP (strI (uVal m x)))) := by rw [hσ4]; simp [ss_sget_self, hl, ss_len]
  have hb4 : σ4.length = 30 := B4.1
  have split : ∀ σ, evSs Φ 1000 ph4 σ = sbindQ (evSs Φ 1000 (ph4.take 4) σ) (evSs Φ 1000 (ph4.drop 4)) := fun σ => by
    rw [← ss_append, List.take_append_drop]
  rw [split, four, sb_next]
  clear split four
  clear hσ4
  have oo : okS [uOp m] = true := by
    have : ∀ m : Fin 4, okS [uOp m.val] = true := by decide
    exact this ⟨m, m1⟩
  have s5 : evS Φ 1000 (.ite (.cmp .NotEq (.call 35 [(.var 7), (.tup [(.call 33 [(.var 4), (.bin .Add (.var 10) (.var 9))])])]) (.var 14)) [(.ret (.lit (.bool false)))] []) σ4 = some (.ok (.next σ4)) := by
    apply ite_no
    unfold Tell at t1
    have sg1 := sg.1
    generalize goodP (strI (uVal m x)) = p at *
    simp [q7, q4, q10, q9, l1, okSize, t1, q14, sg1]
  have hu := H.unfit (op := [uOp m]) (t := junk j) (by simp) (by omega)
  have su := same_unfit oo jo.1
  obtain ⟨σ6, hσ6⟩ : ∃ s, s = sset (sset σ4 15 (S (junk j))) 14 (.val (unfitP [uOp m] (junk j))) := ⟨_, rfl⟩
  have s6 : evS Φ 1000 (.assign 15 (.call 34 [(.bin .Add (.bin .Add (.var 10) (.var 9)) (.lit (.int (1))))])) σ4 = some (.ok (.next (sset σ4 15 (S (junk j))))) := by
    refine s_assign_ok ?_ rfl
    simp [q10, q9, j2]
  have s7 : evS Φ 1000 (.assign 14 (.call 37 [(.var 7), (.var 15)])) (sset σ4 15 (S (junk j))) = some (.ok (.next σ6)) := by
    rw [hσ6]
    refine s_assign_ok ?_ su.2
    simp [ss_sget_ne, ss_sget_self, hb4, q7, hu]
  have B6 : Bse ns σ6 := hσ6 ▸ (B4.set (by decide) _).set (by decide) _
  have r7 : sget σ6 7 = some (S [uOp m]) := by rw [hσ6]; simp [ss_sget_ne, q7]
  have r15 : sget σ6 15 = some (S (junk j)) := by rw [hσ6]; simp [ss_sget_ne, ss_sget_self, hb4]
  have r14 : sget σ6 14 = some (.val (unfitP [uOp m] (junk j))) := by rw [hσ6]; simp [ss_sget_self, hb4, ss_len]
  have hb6 : σ6.length = 30 := B6.1
  show ∃ σ', evSs Φ 1000 (_ :: _ :: _ :: _) σ4 = _ ∧ _
  rw [ss_cons, s5, sb_next, ss_cons, s6, sb_next, ss_cons, s7, sb_next]
  clear hσ6
  have last : ∀ σ p, sget σ 7 = some (S [uOp m]) → sget σ 15 = some (S (junk j)) → sget σ 14 = some (.val p) → Same p → Tell Φ [uOp m] [.str ⟨(junk j).toArray⟩] p → evS Φ 1000 (.ite (.cmp .NotEq (.call 35 [(.var 7), (.tup [(.var 15)])]) (.var 14)) [(.ret (.lit (.bool false)))] []) σ = some (.ok (.next σ)) := by
    intro σ p z7 z15 z14 hp hT
    apply ite_no
    unfold Tell at hT
    simp [z7, z15, z14, okSize, hT, hp.1]
  have hin := in_tS (l := junk j) (xs := [.str ⟨#[116, 82, 117, 101]⟩, .str ⟨#[79, 70, 70]⟩, .str ⟨#[110]⟩]) jo.1 (by decide +kernel)
  have hany : ∀ j : Fin 11, anyEq (.str ⟨(junk j.val).toArray⟩) [.str ⟨#[116, 82, 117, 101]⟩, .str ⟨#[79, 70, 70]⟩, .str ⟨#[110]⟩] = (junkB j.val).isSome := by decide +kernel
  have htr : ∀ j : Fin 11, (junkB j.val).isSome = true → junkB j.val = some (decide (junk j.val = [116, 82, 117, 101])) := by decide +kernel
  rw [show anyEq (.str ⟨(junk j).toArray⟩) [.str ⟨#[116, 82, 117, 101]⟩, .str ⟨#[79, 70, 70]⟩, .str ⟨#[110]⟩] = (junkB j).isSome from hany ⟨j, j1⟩] at hin
  have hop : ∀ m : Fin 4, decide ([uOp m.val] = [33]) = decide (m.val = 3) := by decide
  have hop := hop ⟨m, m1⟩
  have heq : cmpop .Eq (S [uOp m]) (.val (.str ⟨#[33]⟩)) = some (decide (m = 3)) := by
    have := eq_S [uOp m] [33]
    rw [hop] at this
    exact this
  by_cases hb : m = 3 ∧ (junkB j).isSome = true
  · obtain ⟨h3, hj⟩ := hb
    have hjb := htr ⟨j, j1⟩ hj
    have hjb : junkB j = some (decide (junk j = [116, 82, 117, 101])) := hjb
    have hu3 : uOp m = 33 := by rw [h3]; rfl
    have tb := H.unBool j1 hjb
    rw [← hu3] at tb
    have hgz : ∀ b : Bool, Φ 36 [I (if b = true then 0 else 1)] = some (.ok (.val (goodP (strI (if b = true then 0 else 1))))) := fun b => H.good (by cases b <;> decide +kernel)
    have hgz := hgz (decide (junk j = [116, 82, 117, 101]))
    have sgz := same_goodI (if (decide (junk j = [116, 82, 117, 101])) = true then 0 else 1)
    generalize hp : goodP (strI (if (decide (junk j = [116, 82, 117, 101])) = true then 0 else 1)) = p at *
    refine ⟨sset σ6 14 (.val p), ?_, B6.set (by decide) _⟩
    have s8 : evS Φ 1000 (.ite (.boolop true [(.cmp .Eq (.var 7) (.lit (.str ⟨#[33]⟩))), (.cmp .In (.var 15) (.tup [(.lit (.str ⟨#[116, 82, 117, 101]⟩)), (.lit (.str ⟨#[79, 70, 70]⟩)), (.lit (.str ⟨#[110]⟩))]))]) [
      (.assign 14 (.call 36 [(.ife (.cmp .Eq (.var 15) (.lit (.str ⟨#[116, 82, 117, 101]⟩))) (.lit (.int (0))) (.lit (.int (1))))]))] []) σ6 = some (.ok (.next (sset σ6 14 (.val p)))) := by
      have tt : evT Φ (.boolop true [(.cmp .Eq (.var 7) (.lit (.str ⟨#[33]⟩))), (.cmp .In (.var 15) (.tup [(.lit (.str ⟨#[116, 82, 117, 101]⟩)), (.lit (.str ⟨#[79, 70, 70]⟩)), (.lit (.str ⟨#[110]⟩))]))]) σ6 = some (.ok true) := by
        rw [t_bool, ts_and, t_cmp, e_var, r7]
        simp only [Option.map_some, view_val, lift_some, eb_ok, e_lit, heq.trans (congrArg some (decide_eq_true h3)), if_true]
        simp [r15, hin, hj, okSize]
      rw [s_ite, tt, eb_ok, if_pos rfl, ss_cons, s_assign_ok (v := .val p) ?_ sgz.2, sb_next, ss_nil]
      by_cases hc : junk j = [116, 82, 117, 101]
      · rw [decide_eq_true hc, if_pos rfl] at hgz
        simp [r15, hc, hgz]
      · rw [decide_eq_false hc, if_neg (by decide)] at hgz
        simp [r15, hc, hgz]
    rw [ss_cons, s8, sb_next, ss_cons, last (sset σ6 14 (.val p)) p (by simp [ss_sget_ne, r7]) (by simp [ss_sget_ne, r15]) (ss_sget_self (by rw [hb6]; decide)) sgz tb, sb_next, ss_nil]
  · have hj3 : m = 3 → junkB j = none := fun h => by
      cases hq : junkB j with
      | none => rfl
      | some b => exact absurd ⟨h, by rw [hq]; rfl⟩ hb
    have tb := H.unJunk m1 j1 hj3
    refine ⟨σ6, ?_, B6⟩
    have s8 : evT Φ (.boolop true [(.cmp .Eq (.var 7) (.lit (.str ⟨#[33]⟩))), (.cmp .In (.var 15) (.tup [(.lit (.str ⟨#[116, 82, 117, 101]⟩)), (.lit (.str ⟨#[79, 70, 70]⟩)), (.lit (.str ⟨#[110]⟩))]))]) σ6 = some (.ok false) := by
      by_cases h3 : m = 3
      · have hq := hj3 h3
        rw [t_bool, ts_and, t_cmp, e_var, r7]
        simp only [Option.map_some, view_val, lift_some, eb_ok, e_lit, heq.trans (congrArg some (decide_eq_true h3)), if_true]
        simp [r15, hin, hq, okSize]
      · simp [r7, heq, h3]
    rw [ss_cons, ite_no s8, sb_next, ss_cons, last σ6 _ r7 r15 r14 su tb, sb_next, ss_nil]
end NP
end
section
open PySem PySem.Calls PyProof.Rows PySem.W PySem.Spec
set_option maxRecDepth 100000
namespace NP

noncomputable def ph5i : List CS := [
      (.ite (.cmp .NotEq (.call 35 [(.var 7), (.tup [(.sub (.var 22) (.lit (.int (0)))), (.sub (.var 23) (.lit (.int (0))))])]) (.call 36 [(.sub (.var 16) (.bin .Add (.call 45 [(.var 22), (.var 23), (.cmp .Lt (.var 9) (.lit (.int (6))))]) (.lit (.int (1)))))])) [
        (.ret (.lit (.bool false)))] [])]
noncomputable def ph5h : List CS := [
    (.assign 7 (.sub (.tup [(.lit (.str ⟨#[61, 61]⟩)), (.lit (.str ⟨#[33, 61]⟩)), (.lit (.str ⟨#[60]⟩)), (.lit (.str ⟨#[60, 61]⟩)), (.lit (.str ⟨#[62]⟩)), (.lit (.str ⟨#[62, 61]⟩)), (.lit (.str ⟨#[101, 113]⟩)), (.lit (.str ⟨#[110, 101]⟩)), (.lit (.str ⟨#[108, 116]⟩)), (.lit (.str ⟨#[108, 101]⟩)), (.lit (.str ⟨#[103, 116]⟩)), (.lit (.str ⟨#[103, 101]⟩))]) (.var 9))),
    (.assign 16 (.sub (.tup [(.lit (.str ⟨#[48, 49, 48]⟩)), (.lit (.str ⟨#[49, 48, 49]⟩)), (.lit (.str ⟨#[49, 48, 48]⟩)), (.lit (.str ⟨#[49, 49, 48]⟩)), (.lit (.str ⟨#[48, 48, 49]⟩)), (.lit (.str ⟨#[48, 49, 49]⟩))]) (.bin .Mod (.var 9) (.lit (.int (6)))))),
    (.assign 10 (.call 30 [(.var 0), (.var 9)])),
    (.assign 17 (.call 30 [(.var 0), (.bin .Add (.var 9) (.lit (.int (1))))])),
    (.assign 4 (.bin .Sub (.bin .Add (.call 32 [(.var 10)]) (.bin .Mult (.lit (.int (2))) (.var 9))) (.lit (.int (9))))),
    (.assign 5 (.bin .Sub (.bin .Add (.call 32 [(.var 17)]) (.lit (.int (5)))) (.var 9))),
    (.assign 18 (.tup [(.call 33 [(.var 4), (.bin .Add (.var 10) (.var 9))]), (.var 4)])),
    (.assign 19 (.tup [(.call 33 [(.var 5), (.bin .Add (.bin .FloorDiv (.var 17) (.lit (.int (3)))) (.bin .Mult (.lit (.int (2))) (.var 9)))]), (.var 5)])),
    (.assign 20 (.tup [(.call 33 [(.var 4), (.bin .Add (.bin .Add (.var 10) (.var 9)) (.lit (.int (1))))]), (.var 4)])),
    (.assign 21 (.tup [(.call 34 [(.bin .Add (.bin .FloorDiv (.var 10) (.lit (.int (4)))) (.var 9))]), (.lit .none)]))]
noncomputable def ph5it : CIt := .val (.tup [(.tup [(.var 18), (.var 19)]), (.tup [(.var 20), (.var 18)]), (.tup [(.var 21), (.var 19)])])
noncomputable def tpl (l : List Nat) (o : Option Int) : PyData := .tuple [.str ⟨l.toArray⟩, optD o]
noncomputable def Known (l : List Nat) (o : Option Int) : Prop := (∀ d, evCall tbl 1000 (d + 3) 5 [S l] = some (.ok (optI o))) ∧ l.length ≤ 320
theorem sub_tpl (l : List Nat) (o : Option Int) : subop (.val (tpl l o)) (.val (.int 0)) = some (S l) := rfl
theorem ph5_in {Φ : Nat → List TV → Option (Out TV)} (H : Phi Φ) {k : Nat} (hk : k < 12) {σ : Store} {la lb : List Nat} {oa ob : Option Int} (ha : Known la oa) (hb : Known lb ob)
    (q7 : sget σ 7 = some (S (opC k))) (q9 : sget σ 9 = some (I (k : Nat))) (q16 : sget σ 16 = some (S (ansC (k % 6)))) (q22 : sget σ 22 = some (.val (tpl la oa))) (q23 : sget σ 23 = some (.val (tpl lb ob))) :
    evSs Φ 1000 ph5i σ = some (.ok (.next σ)) := by
  have t := H.cmp hk ha.1 hb.1
  have o := H.order (decide (k < 6)) oa ob ha.2 hb.2
  have s := ans_sub (k := k % 6) (Nat.mod_lt _ (by decide)) (ordV_range (decide (k < 6)) la oa lb ob)
  generalize hbit : bitL (relB (k % 6) (ordV (decide (k < 6)) la oa lb ob)) = bt at *
  have g := H.goodS ⟨bt.toArray⟩
  have sm : Same (goodP ⟨bt.toArray⟩) := same_good (strOk_S (by rw [← hbit]; unfold bitL; split <;> decide))
  have o' : Φ 45 [.val (tpl la oa), .val (tpl lb ob), .val (.bool (decide (k < 6)))] = _ := o
  have sa := sub_tpl la oa
  have sb := sub_tpl lb ob
  have lt : cmpop .Lt (I (k : Nat)) (.val (.int 6)) = some (decide (k < 6)) := by
    show some (decide ((k : Int) < 6)) = _
    congr 1
    rw [decide_eq_decide]
    omega
  unfold Tell at t
  have vt : ∀ l o, view (.val (tpl l o)) = .val (tpl l o) := fun _ _ => rfl
  generalize tpl la oa = a at *
  generalize tpl lb ob = b at *
  generalize ordV (decide (k < 6)) la oa lb ob = ov at *
  unfold ph5i
  rw [ss_cons, ite_no, sb_next, ss_nil]
  rw [t_cmp, e_call, es_cons, e_var, q7]
  simp only [Option.map_some, view_val, lift_some, eb_ok, es_cons, e_tup, e_sub, e_var, q22, q23, e_lit, sa, sb, es_nil, datas_cons, flat_str, if_true, datas_nil, Option.bind_some]
  simp only [okSize]
  simp [t, q16, q22, q23, q9, lt, o', s, g, sm.1, -lt_I]
theorem s_forT {Φ : Nat → List TV → Option (Out TV)} {σ : Store} (is : List Nat) (it : CIt) (b : List CS) : evS Φ 1000 (.forT is it b) σ = ebind (evIt Φ it σ) fun xs => forP (fun d σ => match items is.length d with
    | some ds => evSs Φ 1000 b (ssetAll σ is ds)
    | none => none) xs σ := rfl
end NP
end
section
open PySem PySem.Calls PyProof.Rows PySem.W PySem.Spec
set_option maxRecDepth 100000
namespace NP

theorem known_of {l : List Nat} {x : Int} (h : Whole l x) (hl : l.length ≤ 320) : Known l (some x) := ⟨fun d => h d, hl⟩
theorem known_junk {j : Nat} (h : j < 11) : Known (junk j) none := ⟨fun d => junk_whole h d, by have := (junk_ok h).2; omega⟩
theorem flat_tpl (l : List Nat) (o : Option Int) : flat (tpl l o) = true := by
  unfold tpl
  rw [flat_tuple', flats_cons, flats_cons]
  cases o <;> rfl
theorem opC_sub {k : Nat} (hk : k < 12) : subop (.val (.tuple [.str ⟨#[61, 61]⟩, .str ⟨#[33, 61]⟩, .str ⟨#[60]⟩, .str ⟨#[60, 61]⟩, .str ⟨#[62]⟩, .str ⟨#[62, 61]⟩, .str ⟨#[101, 113]⟩, .str ⟨#[110, 101]⟩, .str ⟨#[108, 116]⟩, .str ⟨#[108, 101]⟩, .str ⟨#[103, 116]⟩, .str ⟨#[103, 101]⟩])) (I (k : Nat)) = some (S (opC k)) := by
  rcases twelve hk with rfl | rfl | rfl | rfl | rfl | rfl | rfl | rfl | rfl | rfl | rfl | rfl <;> exact sub_T rfl (by decide)
theorem ansC_sub {k : Nat} (hk : k < 6) : subop (.val (.tuple [.str ⟨#[48, 49, 48]⟩, .str ⟨#[49, 48, 49]⟩, .str ⟨#[49, 48, 48]⟩, .str ⟨#[49, 49, 48]⟩, .str ⟨#[48, 48, 49]⟩, .str ⟨#[48, 49, 49]⟩])) (I (k : Nat)) = some (S (ansC k)) := by
  have : k = 0 ∨ k = 1 ∨ k = 2 ∨ k = 3 ∨ k = 4 ∨ k = 5 := lt6 (by first | assumption | omega)
  rcases this with rfl | rfl | rfl | rfl | rfl | rfl <;> exact sub_T rfl (by decide)
theorem ph5_turn {Φ : Nat → List TV → Option (Out TV)} (H : Phi Φ) {ns : List Int} (hns : ns.length ≤ 63) (k : Nat) (σ : Store) (hk : k < 12) (hP : PB ns k σ) :
    ∃ σ', evSs Φ 1000 (ph5h ++ [.forT [22, 23] ph5it ph5i]) (sset σ 9 (I (k : Nat))) = some (.ok (.next σ')) ∧ PB ns (k + 1) σ' := by
  obtain ⟨hl, h0, h1⟩ := hP
  obtain ⟨n, e1⟩ := H.number hns (k : Nat)
  obtain ⟨n', e2⟩ := H.number hns ((k : Nat) + 1)
  obtain ⟨v, v1, v2⟩ := H.small n
  obtain ⟨v', v3, v4⟩ := H.small n'
  have hm2 : binop .Mult (.val (.int 2)) (I (k : Nat)) = some (I (2 * k)) := mulL2_I (top_of (k := 10) (by omega) (by decide))
  have m6 := modK (k : Nat) 6 (by decide)
  rw [show ((k : Nat) : Int).fmod 6 = ((k % 6 : Nat) : Int) from (Int.fmod_eq_emod_of_nonneg _ (by decide)).trans (by omega)] at m6
  have d3 := divK n' 3 (by decide) (by decide)
  have d4 := divK n 4 (by decide) (by decide)
  have so := opC_sub hk
  have sa := ansC_sub (k := k % 6) (Nat.mod_lt _ (by decide))
  have hx : (v + 2 * k - 9).natAbs ≤ 2 ^ 66 := by omega
  have hy : (v' + 5 - k).natAbs ≤ 2 ^ 66 := by omega
  generalize hxx : v + 2 * (k : Int) - 9 = x at hx
  generalize hyy : v' + 5 - (k : Int) = y at hy
  obtain ⟨l1, a1, _, b1, c1⟩ := H.written x (n + k) hx
  obtain ⟨l2, a2, _, b2, c2⟩ := H.written y (n'.fdiv 3 + 2 * k) hy
  obtain ⟨l3, a3, _, b3, c3⟩ := H.written x (n + k + 1) hx
  obtain ⟨j, j1, j2⟩ := H.junk (n.fdiv 4 + k)
  have K1 := known_of c1 b1
  have K2 := known_of c2 b2
  have K3 := known_of c3 b3
  have K4 := known_junk j1
  obtain ⟨s0, h_0⟩ : ∃ s, s = sset σ 9 (I (k : Nat)) := ⟨_, rfl⟩
  obtain ⟨s1, h_1⟩ : ∃ s, s = sset s0 7 (S (opC k)) := ⟨_, rfl⟩
  obtain ⟨s2, h_2⟩ : ∃ s, s = sset s1 16 (S (ansC (k % 6))) := ⟨_, rfl⟩
  obtain ⟨s3, h_3⟩ : ∃ s, s = sset s2 10 (I n) := ⟨_, rfl⟩
  obtain ⟨s4, h_4⟩ : ∃ s, s = sset s3 17 (I n') := ⟨_, rfl⟩
  obtain ⟨s5, h_5⟩ : ∃ s, s = sset s4 4 (I x) := ⟨_, rfl⟩
  obtain ⟨s6, h_6⟩ : ∃ s, s = sset s5 5 (I y) := ⟨_, rfl⟩
  obtain ⟨s7, h_7⟩ : ∃ s, s = sset s6 18 (.val (tpl l1 (some x))) := ⟨_, rfl⟩
  obtain ⟨s8, h_8⟩ : ∃ s, s = sset s7 19 (.val (tpl l2 (some y))) := ⟨_, rfl⟩
  obtain ⟨s9, h_9⟩ : ∃ s, s = sset s8 20 (.val (tpl l3 (some x))) := ⟨_, rfl⟩
  obtain ⟨s10, h_10⟩ : ∃ s, s = sset s9 21 (.val (tpl (junk j) none)) := ⟨_, rfl⟩
  have B0 : Bse ns s0 := h_0 ▸ Bse.set ⟨hl, h0, h1⟩ (by decide) _
  have B1 : Bse ns s1 := h_1 ▸ B0.set (by decide) _
  have B2 : Bse ns s2 := h_2 ▸ B1.set (by decide) _
  have B3 : Bse ns s3 := h_3 ▸ B2.set (by decide) _
  have B4 : Bse ns s4 := h_4 ▸ B3.set (by decide) _
  have B5 : Bse ns s5 := h_5 ▸ B4.set (by decide) _
  have B6 : Bse ns s6 := h_6 ▸ B5.set (by decide) _
  have B7 : Bse ns s7 := h_7 ▸ B6.set (by decide) _
  have B8 : Bse ns s8 := h_8 ▸ B7.set (by decide) _
  have B9 : Bse ns s9 := h_9 ▸ B8.set (by decide) _
  have B10 : Bse ns s10 := h_10 ▸ B9.set (by decide) _
  have z0 : sget s0 9 = some (I (k : Nat)) := by rw [h_0]; exact ss_sget_self (by rw [hl]; decide)
  have N : ∀ {s s' : Store} {i j : Nat} {v w}, s' = sset s i w → i ≠ j → sget s j = some v → sget s' j = some v := fun {s s' i j v w} e hij h => by rw [e, ss_sget_ne hij]; exact h
  have M : ∀ {s s' : Store} {i : Nat} {w}, Bse ns s → s' = sset s i w → i < 30 → sget s' i = some w := fun {s s' i w} hb e hi => by rw [e]; exact ss_sget_self (by rw [hb.1]; exact hi)
  have z1 := N h_1 (by decide) z0
  have z2 := N h_2 (by decide) z1
  have z3 := N h_3 (by decide) z2
  have z4 := N h_4 (by decide) z3
  have z5 := N h_5 (by decide) z4
  have z6 := N h_6 (by decide) z5
  have z7 := N h_7 (by decide) z6
  have z8 := N h_8 (by decide) z7
  have z9 := N h_9 (by decide) z8
  have z10 := N h_10 (by decide) z9
  have o1 := M B0 h_1 (by decide)
  have o10 := N h_10 (by decide) (N h_9 (by decide) (N h_8 (by decide) (N h_7 (by decide) (N h_6 (by decide) (N h_5 (by decide) (N h_4 (by decide) (N h_3 (by decide) (N h_2 (by decide) o1))))))))
  have w2 := M B1 h_2 (by decide)
  have w10 := N h_10 (by decide) (N h_9 (by decide) (N h_8 (by decide) (N h_7 (by decide) (N h_6 (by decide) (N h_5 (by decide) (N h_4 (by decide) (N h_3 (by decide) w2)))))))
  have n3 := M B2 h_3 (by decide)
  have n4 := N h_4 (by decide) n3
  have n6 := N h_6 (by decide) (N h_5 (by decide) n4)
  have n8 := N h_8 (by decide) (N h_7 (by decide) n6)
  have n9 := N h_9 (by decide) n8
  have p4 := M B3 h_4 (by decide)
  have p5 := N h_5 (by decide) p4
  have p7 := N h_7 (by decide) (N h_6 (by decide) p5)
  have x5 := M B4 h_5 (by decide)
  have x6 := N h_6 (by decide) x5
  have x8 := N h_8 (by decide) (N h_7 (by decide) x6)
  have y6 := M B5 h_6 (by decide)
  have y7 := N h_7 (by decide) y6
  have f7 := M B6 h_7 (by decide)
  have f10 := N h_10 (by decide) (N h_9 (by decide) (N h_8 (by decide) f7))
  have g8 := M B7 h_8 (by decide)
  have g10 := N h_10 (by decide) (N h_9 (by decide) g8)
  have t9 := M B8 h_9 (by decide)
  have t10 := N h_10 (by decide) t9
  have u10 := M B9 h_10 (by decide)
  have q1 : evS Φ 1000 (.assign 7 (.sub (.tup [(.lit (.str ⟨#[61, 61]⟩)), (.lit (.str ⟨#[33, 61]⟩)), (.lit (.str ⟨#[60]⟩)), (.lit (.str ⟨#[60, 61]⟩)), (.lit (.str ⟨#[62]⟩)), (.lit (.str ⟨#[62, 61]⟩)), (.lit (.str ⟨#[101, 113]⟩)), (.lit (.str ⟨#[110, 101]⟩)), (.lit (.str ⟨#[108, 116]⟩)), (.lit (.str ⟨#[108, 101]⟩)), (.lit (.str ⟨#[103, 116]⟩)), (.lit (.str ⟨#[103, 101]⟩))]) (.var 9))) s0 = some (.ok (.next s1)) := by
    rw [h_1]; refine s_assign_ok ?_ rfl
    simp [z0, so, okSize]
  have q2 : evS Φ 1000 (.assign 16 (.sub (.tup [(.lit (.str ⟨#[48, 49, 48]⟩)), (.lit (.str ⟨#[49, 48, 49]⟩)), (.lit (.str ⟨#[49, 48, 48]⟩)), (.lit (.str ⟨#[49, 49, 48]⟩)), (.lit (.str ⟨#[48, 48, 49]⟩)), (.lit (.str ⟨#[48, 49, 49]⟩))]) (.bin .Mod (.var 9) (.lit (.int (6)))))) s1 = some (.ok (.next s2)) := by
    rw [h_2]; refine s_assign_ok ?_ rfl
    simp only [e_sub, e_tup, es_cons, e_lit, eb_ok, es_nil, datas_cons, flat_str, if_true, datas_nil, Option.map_some, Option.bind_some, e_bin, e_var, z1, view_val, lift_some, m6]
    simp only [okSize]
    exact congrArg lift sa
  have q3 : evS Φ 1000 (.assign 10 (.call 30 [(.var 0), (.var 9)])) s2 = some (.ok (.next s3)) := by
    rw [h_3]; refine s_assign_ok ?_ rfl
    simp [z2, B2.2.1, e1]
  have q4 : evS Φ 1000 (.assign 17 (.call 30 [(.var 0), (.bin .Add (.var 9) (.lit (.int (1))))])) s3 = some (.ok (.next s4)) := by
    rw [h_4]; refine s_assign_ok ?_ rfl
    simp [z3, B3.2.1, e2]
  have q5 : evS Φ 1000 (.assign 4 (.bin .Sub (.bin .Add (.call 32 [(.var 10)]) (.bin .Mult (.lit (.int (2))) (.var 9))) (.lit (.int (9))))) s4 = some (.ok (.next s5)) := by
    rw [h_5]; refine s_assign_ok ?_ rfl
    simp [z4, n4, v1, hm2, hxx]
  have q6 : evS Φ 1000 (.assign 5 (.bin .Sub (.bin .Add (.call 32 [(.var 17)]) (.lit (.int (5)))) (.var 9))) s5 = some (.ok (.next s6)) := by
    rw [h_6]; refine s_assign_ok ?_ rfl
    simp [z5, p5, v3, hyy]
  have q7 : evS Φ 1000 (.assign 18 (.tup [(.call 33 [(.var 4), (.bin .Add (.var 10) (.var 9))]), (.var 4)])) s6 = some (.ok (.next s7)) := by
    rw [h_7]; refine s_assign_ok ?_ (flat_tpl _ _)
    simp [z6, x6, n6, a1, okSize]; rfl
  have q8 : evS Φ 1000 (.assign 19 (.tup [(.call 33 [(.var 5), (.bin .Add (.bin .FloorDiv (.var 17) (.lit (.int (3)))) (.bin .Mult (.lit (.int (2))) (.var 9)))]), (.var 5)])) s7 = some (.ok (.next s8)) := by
    rw [h_8]; refine s_assign_ok ?_ (flat_tpl _ _)
    simp [z7, y7, p7, d3, hm2, a2, okSize]; rfl
  have q9 : evS Φ 1000 (.assign 20 (.tup [(.call 33 [(.var 4), (.bin .Add (.bin .Add (.var 10) (.var 9)) (.lit (.int (1))))]), (.var 4)])) s8 = some (.ok (.next s9)) := by
    rw [h_9]; refine s_assign_ok ?_ (flat_tpl _ _)
    simp [z8, x8, n8, a3, okSize]; rfl
  have q10 : evS Φ 1000 (.assign 21 (.tup [(.call 34 [(.bin .Add (.bin .FloorDiv (.var 10) (.lit (.int (4)))) (.var 9))]), (.lit .none)])) s9 = some (.ok (.next s10)) := by
    rw [h_10]; refine s_assign_ok ?_ (flat_tpl _ _)
    simp [z9, n9, d4, j2, okSize]; rfl
  have head : evSs Φ 1000 ph5h s0 = some (.ok (.next s10)) := by
    unfold ph5h
    rw [ss_cons, q1, sb_next, ss_cons, q2, sb_next, ss_cons, q3, sb_next, ss_cons, q4, sb_next, ss_cons, q5, sb_next, ss_cons, q6, sb_next, ss_cons, q7, sb_next, ss_cons, q8, sb_next, ss_cons, q9, sb_next, ss_cons, q10, sb_next, ss_nil]
  rw [← h_0, ss_append, head, sb_next]
  clear q1 q2 q3 q4 q5 q6 q7 q8 q9 q10 head
  have it : evIt Φ ph5it s10 = some (.ok [.tuple [tpl l1 (some x), tpl l2 (some y)], .tuple [tpl l3 (some x), tpl l1 (some x)], .tuple [tpl (junk j) none, tpl l2 (some y)]]) := by
    have F1 := flat_tpl l1 (some x)
    have F2 := flat_tpl l2 (some y)
    have F3 := flat_tpl l3 (some x)
    have F4 := flat_tpl (junk j) none
    generalize tpl l1 (some x) = A at *
    generalize tpl l2 (some y) = B at *
    generalize tpl l3 (some x) = C at *
    generalize tpl (junk j) none = D at *
    unfold ph5it
    simp [f10, g10, t10, u10, F1, F2, F3, F4, okSize, itv]
  have turn : ∀ {la lb oa ob} {s : Store}, Known la oa → Known lb ob → Bse ns s → sget s 9 = some (I (k : Nat)) → sget s 7 = some (S (opC k)) → sget s 16 = some (S (ansC (k % 6))) →
      evSs Φ 1000 ph5i (sset (sset s 22 (.val (tpl la oa))) 23 (.val (tpl lb ob))) = some (.ok (.next (sset (sset s 22 (.val (tpl la oa))) 23 (.val (tpl lb ob))))) ∧
      Bse ns (sset (sset s 22 (.val (tpl la oa))) 23 (.val (tpl lb ob))) ∧ sget (sset (sset s 22 (.val (tpl la oa))) 23 (.val (tpl lb ob))) 9 = some (I (k : Nat)) ∧ sget (sset (sset s 22 (.val (tpl la oa))) 23 (.val (tpl lb ob))) 7 = some (S (opC k)) ∧ sget (sset (sset s 22 (.val (tpl la oa))) 23 (.val (tpl lb ob))) 16 = some (S (ansC (k % 6))) := by
    intro la lb oa ob s ha hb hB r9 r7 r16
    have t9 : sget (sset (sset s 22 (.val (tpl la oa))) 23 (.val (tpl lb ob))) 9 = some (I (k : Nat)) := by rw [ss_sget_ne (by decide), ss_sget_ne (by decide), r9]
    have t7 : sget (sset (sset s 22 (.val (tpl la oa))) 23 (.val (tpl lb ob))) 7 = some (S (opC k)) := by rw [ss_sget_ne (by decide), ss_sget_ne (by decide), r7]
    have t16 : sget (sset (sset s 22 (.val (tpl la oa))) 23 (.val (tpl lb ob))) 16 = some (S (ansC (k % 6))) := by rw [ss_sget_ne (by decide), ss_sget_ne (by decide), r16]
    refine ⟨ph5_in H hk ha hb t7 t9 t16 ?_ ?_, (hB.set (by decide) _).set (by decide) _, t9, t7, t16⟩
    · rw [ss_sget_ne (by decide), ss_sget_self (by rw [hB.1]; decide)]
    · rw [ss_sget_self (by rw [ss_len, hB.1]; decide)]
  obtain ⟨r1, C1, D1, E1, F1⟩ := turn K1 K2 B10 z10 o10 w10
  obtain ⟨r2, C2, D2, E2, F2⟩ := turn K3 K1 C1 D1 E1 F1
  obtain ⟨r3, C3, D3, E3, F3⟩ := turn K4 K2 C2 D2 E2 F2
  refine ⟨_, ?_, C3⟩
  rw [ss_cons, s_forT, it, eb_ok, for_cons]
  show sbindQ (sbindQ (evSs Φ 1000 ph5i (sset (sset s10 22 (.val (tpl l1 (some x)))) 23 (.val (tpl l2 (some y))))) _) _ = _
  rw [r1, sb_next, for_cons]
  show sbindQ (sbindQ (evSs Φ 1000 ph5i (sset (sset _ 22 (.val (tpl l3 (some x)))) 23 (.val (tpl l1 (some x))))) _) _ = _
  rw [r2, sb_next, for_cons]
  show sbindQ (sbindQ (evSs Φ 1000 ph5i (sset (sset _ 22 (.val (tpl (junk j) none))) 23 (.val (tpl l2 (some y))))) _) _ = _
  rw [r3, sb_next, for_nil, sb_next, ss_nil]
end NP
end
section
open PySem PySem.Calls PyProof.Rows PySem.W PySem.Spec
set_option maxRecDepth 100000
namespace NP

noncomputable def poolL : List (List Nat) := [[97], [48, 120, 49], [49], [], [98, 32, 99], [48, 49]]
noncomputable def poolP (i : Nat) : List Nat := poolL.getD i []
noncomputable def poolD : List PyData := [.str ⟨#[97]⟩, .str ⟨#[48, 120, 49]⟩, .str ⟨#[49]⟩, .str ⟨#[]⟩, .str ⟨#[98, 32, 99]⟩, .str ⟨#[48, 49]⟩]
theorem pool_sub {i : Nat} (h : i < 6) : subop (.val (.tuple poolD)) (I (i : Nat)) = some (S (poolP i)) := by
  have : i = 0 ∨ i = 1 ∨ i = 2 ∨ i = 3 ∨ i = 4 ∨ i = 5 := lt6 (by first | assumption | omega)
  rcases this with rfl | rfl | rfl | rfl | rfl | rfl <;> exact sub_T rfl (by decide)
theorem six {P : Nat → Prop} (h : ∀ i : Fin 6, P i.val) {i : Nat} (hi : i < 6) : P i := h ⟨i, hi⟩
theorem pool_ok {i : Nat} (h : i < 6) : okS (poolP i) = true ∧ (poolP i).length ≤ 3 :=
  six (P := fun i => okS (poolP i) = true ∧ (poolP i).length ≤ 3) (by decide) h
theorem pool_plain {i : Nat} (h : i < 6) : ∀ c ∈ poolP i, plainB c :=
  six (P := fun i => ∀ c ∈ poolP i, plainB c) (by unfold plainB; decide) h
noncomputable def special (i : Nat) : Bool := decide (i = 3) || decide (i = 4)
theorem pool_bare {i : Nat} (h : i < 6) (hs : special i = false) : ∃ c r, poolP i = c :: r ∧ (∀ x ∈ c :: r, blankP x = false ∧ x ≠ 92) ∧ c ≠ 123 ∧ c ≠ 34 := by
  have : i = 0 ∨ i = 1 ∨ i = 2 ∨ i = 3 ∨ i = 4 ∨ i = 5 := lt6 (by first | assumption | omega)
  rcases this with rfl | rfl | rfl | rfl | rfl | rfl
  · exact ⟨97, [], rfl, by decide, by decide, by decide⟩
  · exact ⟨48, [120, 49], rfl, by decide, by decide, by decide⟩
  · exact ⟨49, [], rfl, by decide, by decide, by decide⟩
  · cases hs
  · cases hs
  · exact ⟨48, [49], rfl, by decide, by decide, by decide⟩
theorem pool_special {i : Nat} (h : i < 6) : anyEq (.str ⟨(poolP i).toArray⟩) [.str ⟨#[]⟩, .str ⟨#[98, 32, 99]⟩] = special i :=
  six (P := fun i => anyEq (.str ⟨(poolP i).toArray⟩) [.str ⟨#[]⟩, .str ⟨#[98, 32, 99]⟩] = special i) (by decide +kernel) h
noncomputable def sepP (i : Nat) : List Nat := [[32], [9, 32], [10]].getD i []
theorem sep_sub {i : Nat} (h : i < 3) : subop (.val (.tuple [.str ⟨#[32]⟩, .str ⟨#[9, 32]⟩, .str ⟨#[10]⟩])) (I (i : Nat)) = some (S (sepP i)) := by
  obtain rfl | rfl | rfl : i = 0 ∨ i = 1 ∨ i = 2 := lt3 (by first | assumption | omega)
  all_goals exact sub_T rfl (by decide)
theorem sep_ok {i : Nat} (h : i < 3) : (∀ c ∈ sepP i, blankP c = true) ∧ sepP i ≠ [] ∧ okS (sepP i) = true ∧ (sepP i).length ≤ 2 := by
  obtain rfl | rfl | rfl : i = 0 ∨ i = 1 ∨ i = 2 := lt3 (by first | assumption | omega)
  all_goals decide

structure Small (p : Pc) : Prop where
  ok : p.ok
  it : okS p.it = true
  sep : okS p.sep = true
  li : p.it.length ≤ 3
  ls : p.sep.length ≤ 2
theorem tok_len {p : Pc} (h : Small p) : p.tok.length ≤ 5 := by
  unfold Pc.tok
  have := h.li
  split
  · omega
  · simp; omega
theorem tok_ok {p : Pc} (h : Small p) : okS p.tok = true := by
  unfold Pc.tok
  split
  · exact h.it
  · show okS ([123] ++ (p.it ++ [125])) = true
    rw [okS_app, okS_app, h.it]; decide
theorem txt_app (a b : List Pc) : txt (a ++ b) = txt a ++ txt b := by
  induction a with
  | nil => rfl
  | cons p a ih => show p.sep ++ (p.tok ++ txt (a ++ b)) = p.sep ++ (p.tok ++ txt a) ++ txt b; rw [ih]; simp
theorem txt_small {ps : List Pc} (h : ∀ p ∈ ps, Small p) : (txt ps).length ≤ 7 * ps.length ∧ okS (txt ps) = true := by
  induction ps with
  | nil => exact ⟨Nat.le_refl _, rfl⟩
  | cons p r ih =>
    have hp := h p (by simp)
    have ⟨a, b⟩ := ih fun q hq => h q (by simp [hq])
    have := tok_len hp
    have := hp.ls
    constructor
    · show (p.sep ++ (p.tok ++ txt r)).length ≤ _
      simp only [List.length_append, List.length_cons]
      omega
    · show okS (p.sep ++ (p.tok ++ txt r)) = true
      rw [okS_app, okS_app, hp.sep, tok_ok hp, b]; rfl
theorem its_app (a b : List Pc) : its (a ++ b) = its a ++ its b := by unfold its; rw [List.map_append]


theorem e_and2 {Φ : Nat → List TV → Option (Out TV)} {σ : Store} {a b : CE} {p q : Bool} (ha : evE Φ a σ = some (.ok (.val (.bool p)))) (hb : evE Φ b σ = some (.ok (.val (.bool q)))) : evE Φ (.boolop true [a, b]) σ = some (.ok (.val (.bool (p && q)))) := by
  show ebind (evE Φ a σ) (fun v => match truth v with | some b' => if b' = true then evBs Φ true [b] σ else some (.ok v) | none => none) = _
  rw [ha]
  cases p with
  | false => rfl
  | true =>
    show (if true = true then evBs Φ true [b] σ else some (.ok (.val (.bool true)))) = _
    rw [if_pos rfl, evBs, hb]; rfl
noncomputable def ph6i : List CS := [
      (.assign 27 (.sub (.var 24) (.bin .Mod (.bin .Add (.bin .Add (.bin .FloorDiv (.bin .FloorDiv (.var 10) (.lit (.int (21)))) (.bin .Pow (.lit (.int (6))) (.var 3))) (.var 9)) (.var 3)) (.lit (.int (6)))))),
      (.append 25 (.var 27)),
      (.assign 28 (.boolop true [(.cmp .NotIn (.var 27) (.tup [(.lit (.str ⟨#[]⟩)), (.lit (.str ⟨#[98, 32, 99]⟩))])), (.cmp .Eq (.bin .Mod (.bin .Add (.bin .FloorDiv (.var 10) (.lit (.int (3)))) (.var 3)) (.lit (.int (2)))) (.lit (.int (0))))])),
      (.assign 26 (.bin .Add (.var 26) (.ife (.cmp .Eq (.var 3) (.lit (.int (0)))) (.lit (.str ⟨#[]⟩)) (.sub (.tup [(.lit (.str ⟨#[32]⟩)), (.lit (.str ⟨#[9, 32]⟩)), (.lit (.str ⟨#[10]⟩))]) (.bin .Mod (.bin .Add (.var 10) (.var 3)) (.lit (.int (3)))))))),
      (.assign 26 (.bin .Add (.var 26) (.ife (.var 28) (.var 27) (.bin .Add (.bin .Add (.lit (.str ⟨#[123]⟩)) (.var 27)) (.lit (.str ⟨#[125]⟩))))))]
structure P6 (ns : List Int) (k : Nat) (n : Int) (j : Nat) (σ : Store) : Prop where
  b : Bse ns σ
  g9 : sget σ 9 = some (I (k : Nat))
  g10 : sget σ 10 = some (I n)
  g24 : sget σ 24 = some (.val (.tuple poolD))
  ps : ∃ ps : List Pc, ps.length = j ∧ sget σ 25 = some (.own (its ps)) ∧ sget σ 26 = some (S (txt ps)) ∧ (∀ p ∈ ps, Small p) ∧ (∀ p ∈ ps.drop 1, p.sep ≠ [])
theorem N {s s' : Store} {i j : Nat} {v : TV} {w : TV} (e : s' = sset s i w) (hij : i ≠ j) (h : sget s j = some v) : sget s' j = some v := by rw [e, ss_sget_ne hij]; exact h
theorem M {ns : List Int} {s s' : Store} {i : Nat} {w : TV} (hb : Bse ns s) (e : s' = sset s i w) (hi : i < 30) : sget s' i = some w := by rw [e]; exact ss_sget_self (by rw [hb.1]; exact hi)
theorem ph6_in {Φ : Nat → List TV → Option (Out TV)} {ns : List Int} {k : Nat} {n : Int} (hk : k < 6) (j : Nat) (σ : Store) (hj : j < 3) (hP : P6 ns k n j σ) :
    ∃ σ', evSs Φ 1000 ph6i (sset σ 3 (I (j : Nat))) = some (.ok (.next σ')) ∧ P6 ns k n (j + 1) σ' := by
  obtain ⟨B, g9, g10, g24, ps, hlen, g25, g26, hps, hsep⟩ := hP
  have d21 := divK n 21 (by decide) (by decide)
  have hpow : binop .Pow (.val (.int 6)) (I (j : Nat)) = some (I ((6 ^ j : Nat) : Int)) := by
    have := pow_I (a := 6) (n := (j : Nat)) (by omega) (by omega) (by decide +kernel)
    rw [this, Int.toNat_natCast, Int.natCast_pow]; rfl
  have hp6 : (6 ^ j : Nat) ≤ 1000 ∧ 0 < (6 ^ j : Nat) := by
    obtain rfl | rfl | rfl : j = 0 ∨ j = 1 ∨ j = 2 := lt3 (by first | assumption | omega)
    all_goals decide
  have dp : binop .FloorDiv (I (n.fdiv 21)) (I ((6 ^ j : Nat) : Int)) = some (I ((n.fdiv 21).fdiv ((6 ^ j : Nat) : Int))) := div_I (by omega) (top_of (k := 10) (by omega) (by decide))
  generalize hq : (n.fdiv 21).fdiv ((6 ^ j : Nat) : Int) = q at dp
  generalize ((6 ^ j : Nat) : Int) = e6 at dp hpow
  obtain ⟨i, i1, i2⟩ := fmod_nat (q + k + j) (m := 6) (by decide)
  have m6 := modK (q + k + j) 6 (by decide)
  rw [show (q + k + j).fmod 6 = (i : Int) from i2] at m6
  have hit := pool_sub i1
  have d3 := divK n 3 (by decide) (by decide)
  have m2 := modK (n.fdiv 3 + j) 2 (by decide)
  obtain ⟨b, hb⟩ : ∃ b, b = decide ((n.fdiv 3 + j).fmod 2 = 0) := ⟨_, rfl⟩
  obtain ⟨r, r1, r2⟩ := fmod_nat (n + j) (m := 3) (by decide)
  have m3 := modK (n + j) 3 (by decide)
  rw [show (n + j).fmod 3 = (r : Int) from r2] at m3
  have hsp := sep_sub r1
  have hsk := sep_ok r1
  have hpo := pool_ok i1
  have hnin := notin_tS (l := poolP i) (xs := [.str ⟨#[]⟩, .str ⟨#[98, 32, 99]⟩]) hpo.1 (by decide +kernel)
  rw [pool_special i1] at hnin
  let p : Pc := ⟨if j = 0 then [] else sepP r, poolP i, !special i && b⟩
  have hpS : Small p := by
    refine ⟨⟨?_, pool_plain i1, ?_⟩, hpo.1, ?_, hpo.2, ?_⟩
    · show ∀ c ∈ (if j = 0 then [] else sepP r), _
      split
      · simp
      · exact hsk.1
    · intro h
      have h : (!special i && b) = true := h
      refine pool_bare i1 ?_
      cases hs : special i with
      | false => rfl
      | true => rw [hs] at h; cases h
    · show okS (if j = 0 then [] else sepP r) = true
      split
      · rfl
      · exact hsk.2.2.1
    · show (if j = 0 then [] else sepP r).length ≤ 2
      split
      · simp
      · exact hsk.2.2.2
  have htx := txt_small hps
  obtain ⟨s0, h_0⟩ : ∃ s, s = sset σ 3 (I (j : Nat)) := ⟨_, rfl⟩
  obtain ⟨s1, h_1⟩ : ∃ s, s = sset s0 27 (S (poolP i)) := ⟨_, rfl⟩
  obtain ⟨s2, h_2⟩ : ∃ s, s = sset s1 25 (.own (its ps ++ [.str ⟨(poolP i).toArray⟩])) := ⟨_, rfl⟩
  obtain ⟨s3, h_3⟩ : ∃ s, s = sset s2 28 (.val (.bool (!special i && b))) := ⟨_, rfl⟩
  obtain ⟨s4, h_4⟩ : ∃ s, s = sset s3 26 (S (txt ps ++ p.sep)) := ⟨_, rfl⟩
  obtain ⟨s5, h_5⟩ : ∃ s, s = sset s4 26 (S (txt ps ++ p.sep ++ p.tok)) := ⟨_, rfl⟩
  have B0 : Bse ns s0 := h_0 ▸ B.set (by decide) _
  have B1 : Bse ns s1 := h_1 ▸ B0.set (by decide) _
  have B2 : Bse ns s2 := h_2 ▸ B1.set (by decide) _
  have B3 : Bse ns s3 := h_3 ▸ B2.set (by decide) _
  have B4 : Bse ns s4 := h_4 ▸ B3.set (by decide) _
  have B5 : Bse ns s5 := h_5 ▸ B4.set (by decide) _
  have j0 := M B h_0 (by decide)
  have j1 := N h_1 (by decide) j0
  have j2 := N h_2 (by decide) j1
  have j3 := N h_3 (by decide) j2
  have k0 := N h_0 (by decide) g9
  have n0 := N h_0 (by decide) g10
  have p0 := N h_0 (by decide) g24
  have k5 := N h_5 (by decide) (N h_4 (by decide) (N h_3 (by decide) (N h_2 (by decide) (N h_1 (by decide) k0))))
  have n2 := N h_2 (by decide) (N h_1 (by decide) n0)
  have n3 := N h_3 (by decide) n2
  have n5 := N h_5 (by decide) (N h_4 (by decide) n3)
  have p5 := N h_5 (by decide) (N h_4 (by decide) (N h_3 (by decide) (N h_2 (by decide) (N h_1 (by decide) p0))))
  have i1' := M B0 h_1 (by decide)
  have i2' := N h_2 (by decide) i1'
  have i4' := N h_4 (by decide) (N h_3 (by decide) i2')
  have w1 := N h_1 (by decide) (N h_0 (by decide) g25)
  have w5 := N h_5 (by decide) (N h_4 (by decide) (N h_3 (by decide) (M B1 h_2 (by decide))))
  have b4 := N h_4 (by decide) (M B2 h_3 (by decide))
  have t3 := N h_3 (by decide) (N h_2 (by decide) (N h_1 (by decide) (N h_0 (by decide) g26)))
  have t4 := M B3 h_4 (by decide)
  have t5 := M B4 h_5 (by decide)
  have q1 : evS Φ 1000 (.assign 27 (.sub (.var 24) (.bin .Mod (.bin .Add (.bin .Add (.bin .FloorDiv (.bin .FloorDiv (.var 10) (.lit (.int (21)))) (.bin .Pow (.lit (.int (6))) (.var 3))) (.var 9)) (.var 3)) (.lit (.int (6)))))) s0 = some (.ok (.next s1)) := by
    rw [h_1]; refine s_assign_ok ?_ rfl
    simp [p0, n0, d21, j0, hpow, dp, k0, m6, hit]
  have q2 : evS Φ 1000 (.append 25 (.var 27)) s1 = some (.ok (.next s2)) := by
    rw [h_2, s_append', w1, appS_own, e_var, i1']
    exact appv_ok rfl (decide_eq_true (by unfold its; simp; omega))
  have q3 : evS Φ 1000 (.assign 28 (.boolop true [(.cmp .NotIn (.var 27) (.tup [(.lit (.str ⟨#[]⟩)), (.lit (.str ⟨#[98, 32, 99]⟩))])), (.cmp .Eq (.bin .Mod (.bin .Add (.bin .FloorDiv (.var 10) (.lit (.int (3)))) (.var 3)) (.lit (.int (2)))) (.lit (.int (0))))])) s2 = some (.ok (.next s3)) := by
    rw [h_3]; refine s_assign_ok (e_and2 ?_ ?_) rfl
    · simp [i2', hnin, okSize]
    · rw [hb]
      simp [n2, d3, j2, m2]
  have a1 := add_S (a := txt ps) (b := p.sep) (by have := hpS.ls; omega)
  have a2 := add_S (a := txt ps ++ p.sep) (b := p.tok) (by have := hpS.ls; have := tok_len hpS; simp only [List.length_append]; omega)
  have q4 : evS Φ 1000 (.assign 26 (.bin .Add (.var 26) (.ife (.cmp .Eq (.var 3) (.lit (.int (0)))) (.lit (.str ⟨#[]⟩)) (.sub (.tup [(.lit (.str ⟨#[32]⟩)), (.lit (.str ⟨#[9, 32]⟩)), (.lit (.str ⟨#[10]⟩))]) (.bin .Mod (.bin .Add (.var 10) (.var 3)) (.lit (.int (3)))))))) s3 = some (.ok (.next s4)) := by
    have e : evE Φ (.ife (.cmp .Eq (.var 3) (.lit (.int (0)))) (.lit (.str ⟨#[]⟩)) (.sub (.tup [(.lit (.str ⟨#[32]⟩)), (.lit (.str ⟨#[9, 32]⟩)), (.lit (.str ⟨#[10]⟩))]) (.bin .Mod (.bin .Add (.var 10) (.var 3)) (.lit (.int (3)))))) s3 = some (.ok (S p.sep)) := by
      by_cases hj0 : j = 0
      · have : p.sep = [] := if_pos hj0
        rw [this]
        simp [j3, hj0]
      · have : p.sep = sepP r := if_neg hj0
        rw [this]
        have hj0' : ¬ (j : Int) = 0 := by omega
        simp [j3, hj0', hj0, n3, m3, okSize, hsp]
    rw [h_4]; refine s_assign_ok ?_ rfl
    rw [e_bin, e_var, t3, e]
    simp only [Option.map_some, view_val, lift_some, eb_ok, a1]
  have q5 : evS Φ 1000 (.assign 26 (.bin .Add (.var 26) (.ife (.var 28) (.var 27) (.bin .Add (.bin .Add (.lit (.str ⟨#[123]⟩)) (.var 27)) (.lit (.str ⟨#[125]⟩)))))) s4 = some (.ok (.next s5)) := by
    have e : evE Φ (.ife (.var 28) (.var 27) (.bin .Add (.bin .Add (.lit (.str ⟨#[123]⟩)) (.var 27)) (.lit (.str ⟨#[125]⟩)))) s4 = some (.ok (S p.tok)) := by
      cases hbr : (!special i && b) with
      | true =>
        have : p.tok = poolP i := if_pos hbr
        rw [this]
        rw [hbr] at b4
        simp [b4, i4']
      | false =>
        have : p.tok = 123 :: (poolP i ++ [125]) := if_neg (by show ¬ (!special i && b) = true; rw [hbr]; decide)
        rw [this]
        rw [hbr] at b4
        have c1 := add_S (a := [123]) (b := poolP i) (by have := hpo.2; simp; omega)
        have c2 := add_S (a := [123] ++ poolP i) (b := [125]) (by have := hpo.2; simp; omega)
        rw [e_ife, t_var, b4]
        show ebind (lift (truth (.val (.bool false)))) _ = _
        rw [truth_bool, lift_some, eb_ok, if_neg (by decide), e_bin, e_bin, e_lit, eb_ok, e_var, i4']
        show ebind (lift (binop .Add (S [123]) (S (poolP i)))) _ = _
        rw [c1, lift_some, eb_ok, e_lit, eb_ok]
        exact congrArg lift c2
    rw [h_5]; refine s_assign_ok ?_ rfl
    rw [e_bin, e_var, t4, e]
    simp only [Option.map_some, view_val, lift_some, eb_ok, a2]
  refine ⟨s5, ?_, ⟨B5, k5, n5, p5, ps ++ [p], by simp [hlen], ?_, ?_, ?_, ?_⟩⟩
  · unfold ph6i
    rw [← h_0, ss_cons, q1, sb_next, ss_cons, q2, sb_next, ss_cons, q3, sb_next, ss_cons, q4, sb_next, ss_cons, q5, sb_next, ss_nil]
  · rw [w5, its_app]; rfl
  · rw [t5, txt_app]
    show some (S (txt ps ++ p.sep ++ p.tok)) = some (S (txt ps ++ (p.sep ++ (p.tok ++ []))))
    simp
  · intro x hx
    rcases List.mem_append.mp hx with h | h
    · exact hps x h
    · rw [List.mem_singleton.mp h]; exact hpS
  · intro x hx
    cases ps with
    | nil => simp at hx
    | cons a t =>
      rw [List.cons_append, List.drop_succ_cons, List.drop_zero] at hx
      rcases List.mem_append.mp hx with h | h
      · exact hsep x (by simpa using h)
      · rw [List.mem_singleton.mp h]
        have : ¬ j = 0 := by rw [← hlen]; simp
        show (if j = 0 then [] else sepP r) ≠ []
        rw [if_neg this]
        exact hsk.2.1
end NP
end
section
open PySem PySem.Calls PyProof.Rows PySem.W PySem.Spec
set_option maxRecDepth 100000
namespace NP

noncomputable def ph6a : List CS := [
    (.assign 10 (.call 30 [(.var 0), (.bin .Add (.var 9) (.lit (.int (2))))])),
    (.assign 24 (.tup [(.lit (.str ⟨#[97]⟩)), (.lit (.str ⟨#[48, 120, 49]⟩)), (.lit (.str ⟨#[49]⟩)), (.lit (.str ⟨#[]⟩)), (.lit (.str ⟨#[98, 32, 99]⟩)), (.lit (.str ⟨#[48, 49]⟩))])),
    (.assign 25 (.lst [])),
    (.assign 26 (.lit (.str ⟨#[]⟩)))]
noncomputable def ph6n : CE := (.bin .Add (.lit (.int (1))) (.bin .Mod (.bin .Add (.bin .FloorDiv (.var 10) (.lit (.int (7)))) (.var 9)) (.lit (.int (3)))))
noncomputable def ph6z : List CS := [
    (.assign 29 (.sub (.var 24) (.bin .Mod (.bin .Add (.bin .FloorDiv (.var 10) (.lit (.int (2)))) (.sub (.tup [(.lit (.int (0))), (.lit (.int (1))), (.lit (.int (0))), (.lit (.int (2))), (.lit (.int (1))), (.lit (.int (3)))]) (.var 9))) (.lit (.int (6)))))),
    (.assign 7 (.sub (.tup [(.lit (.str ⟨#[105, 110]⟩)), (.lit (.str ⟨#[110, 105]⟩))]) (.bin .Mod (.var 9) (.lit (.int (2)))))),
    (.assign 14 (.call 36 [(.ife (.cmp .Eq (.cmp .In (.var 29) (.var 25)) (.cmp .Eq (.var 7) (.lit (.str ⟨#[105, 110]⟩)))) (.lit (.int (1))) (.lit (.int (0))))])),
    (.ite (.cmp .Eq (.bin .Mod (.bin .Add (.var 10) (.var 9)) (.lit (.int (4)))) (.lit (.int (3)))) [
      (.assign 26 (.bin .Add (.var 26) (.lit (.str ⟨#[32, 123, 120]⟩)))),
      (.assign 14 (.tup [(.lit (.int (1))), (.lit (.str ⟨#[117, 110, 109, 97, 116, 99, 104, 101, 100, 32, 111, 112, 101, 110, 32, 98, 114, 97, 99, 101, 32, 105, 110, 32, 108, 105, 115, 116]⟩)), (.tup [(.lit (.str ⟨#[84, 67, 76]⟩)), (.lit (.str ⟨#[86, 65, 76, 85, 69]⟩)), (.lit (.str ⟨#[76, 73, 83, 84]⟩)), (.lit (.str ⟨#[66, 82, 65, 67, 69]⟩))])]))] []),
    (.ite (.cmp .NotEq (.call 35 [(.var 7), (.tup [(.var 29), (.var 26)])]) (.var 14)) [
      (.ret (.lit (.bool false)))] [])]
theorem ph6_last {Φ : Nat → List TV → Option (Out TV)} {σ : Store} {op a l : List Nat} {p : PyData} (q7 : sget σ 7 = some (S op)) (q29 : sget σ 29 = some (S a)) (q26 : sget σ 26 = some (S l)) (q14 : sget σ 14 = some (.val p)) (hp : Same p) (hT : Tell Φ op [.str ⟨a.toArray⟩, .str ⟨l.toArray⟩] p) :
    evS Φ 1000 (.ite (.cmp .NotEq (.call 35 [(.var 7), (.tup [(.var 29), (.var 26)])]) (.var 14)) [(.ret (.lit (.bool false)))] []) σ = some (.ok (.next σ)) := by
  apply ite_no
  unfold Tell at hT
  simp [q7, q29, q26, q14, okSize, hT, hp.1]
theorem same_open : Same (failP openMsg (.tuple openEc)) := same_P (by decide +kernel) (by decide +kernel)
theorem good_bit (b : Bool) : goodP (strI (if b = true then 1 else 0)) = goodP ⟨(bitL b).toArray⟩ := by
  cases b
  · show goodP (strI 0) = _; rw [strI_01.1]; rfl
  · show goodP (strI 1) = _; rw [strI_01.2]; rfl
theorem ph6_turn {Φ : Nat → List TV → Option (Out TV)} (H : Phi Φ) {ns : List Int} (hns : ns.length ≤ 63) (k : Nat) (σ : Store) (hk : k < 6) (hP : PB ns k σ) :
    ∃ σ', evSs Φ 1000 (ph6a ++ (.for1 3 (.rng ph6n) ph6i :: ph6z)) (sset σ 9 (I (k : Nat))) = some (.ok (.next σ')) ∧ PB ns (k + 1) σ' := by
  have B : Bse ns σ := hP
  obtain ⟨n, e1⟩ := H.number hns ((k : Nat) + 2)
  obtain ⟨s0, h_0⟩ : ∃ s, s = sset σ 9 (I (k : Nat)) := ⟨_, rfl⟩
  obtain ⟨s1, h_1⟩ : ∃ s, s = sset s0 10 (I n) := ⟨_, rfl⟩
  obtain ⟨s2, h_2⟩ : ∃ s, s = sset s1 24 (.val (.tuple poolD)) := ⟨_, rfl⟩
  obtain ⟨s3, h_3⟩ : ∃ s, s = sset s2 25 (.own []) := ⟨_, rfl⟩
  obtain ⟨s4, h_4⟩ : ∃ s, s = sset s3 26 (S []) := ⟨_, rfl⟩
  have B0 : Bse ns s0 := h_0 ▸ B.set (by decide) _
  have B1 : Bse ns s1 := h_1 ▸ B0.set (by decide) _
  have B2 : Bse ns s2 := h_2 ▸ B1.set (by decide) _
  have B3 : Bse ns s3 := h_3 ▸ B2.set (by decide) _
  have B4 : Bse ns s4 := h_4 ▸ B3.set (by decide) _
  have k0 := M B h_0 (by decide)
  have k4 := N h_4 (by decide) (N h_3 (by decide) (N h_2 (by decide) (N h_1 (by decide) k0)))
  have n4 := N h_4 (by decide) (N h_3 (by decide) (N h_2 (by decide) (M B0 h_1 (by decide))))
  have p4 := N h_4 (by decide) (N h_3 (by decide) (M B1 h_2 (by decide)))
  have w4 := N h_4 (by decide) (M B2 h_3 (by decide))
  have t4 := M B3 h_4 (by decide)
  have start : P6 ns k n 0 s4 := ⟨B4, k4, n4, p4, [], rfl, w4, t4, (fun p h => by cases h), (fun p h => by cases h)⟩
  have q1 : evS Φ 1000 (.assign 10 (.call 30 [(.var 0), (.bin .Add (.var 9) (.lit (.int (2))))])) s0 = some (.ok (.next s1)) := by
    rw [h_1]; refine s_assign_ok ?_ rfl
    simp [k0, B0.2.1, e1]
  have q2 : evS Φ 1000 (.assign 24 (.tup [(.lit (.str ⟨#[97]⟩)), (.lit (.str ⟨#[48, 120, 49]⟩)), (.lit (.str ⟨#[49]⟩)), (.lit (.str ⟨#[]⟩)), (.lit (.str ⟨#[98, 32, 99]⟩)), (.lit (.str ⟨#[48, 49]⟩))])) s1 = some (.ok (.next s2)) := by
    rw [h_2]; refine s_assign_ok ?_ rfl
    simp [okSize, poolD]
  have q3 : evS Φ 1000 (.assign 25 (.lst [])) s2 = some (.ok (.next s3)) := by
    rw [h_3]; refine s_assign_ok ?_ rfl
    simp [okSize]
  have q4 : evS Φ 1000 (.assign 26 (.lit (.str ⟨#[]⟩))) s3 = some (.ok (.next s4)) := by
    rw [h_4]; refine s_assign_ok ?_ rfl
    simp
  have head : evSs Φ 1000 ph6a s0 = some (.ok (.next s4)) := by
    unfold ph6a
    rw [ss_cons, q1, sb_next, ss_cons, q2, sb_next, ss_cons, q3, sb_next, ss_cons, q4, sb_next, ss_nil]
  have d7 := divK n 7 (by decide) (by decide)
  obtain ⟨w, w1, w2⟩ := fmod_nat (n.fdiv 7 + k) (m := 3) (by decide)
  have m3 := modK (n.fdiv 7 + k) 3 (by decide)
  rw [show (n.fdiv 7 + k).fmod 3 = (w : Int) from w2] at m3
  have hcnt : evE Φ ph6n s4 = some (.ok (I ((1 + w : Nat) : Int))) := by
    have : (1 : Int) + (w : Int) = ((1 + w : Nat) : Int) := by omega
    unfold ph6n
    simp only [e_bin, e_lit, eb_ok, e_var, n4, k4, Option.map_some, view_val, lift_some, d7, add_I, m3, this]
  obtain ⟨s5, f1, f2⟩ := s_range (Φ := Φ) (N := 1000) (b := ph6i) (i := 3) (P6 ns k n) hcnt (by omega) (fun j σ hj hp => ph6_in hk j σ (by omega) hp) start
  rw [← h_0, ss_append, head, sb_next, ss_cons, f1, sb_next]
  clear q1 q2 q3 q4 head
  obtain ⟨B5, g9, g10, g24, ps, hlen, g25, g26, hps, hsep⟩ := f2
  obtain ⟨p, r, rfl⟩ : ∃ p r, ps = p :: r := by
    cases ps with
    | nil => exfalso; simp only [List.length_nil] at hlen; omega
    | cons p r => exact ⟨p, r, rfl⟩
  have d2 := divK n 2 (by decide) (by decide)
  obtain ⟨c, c1⟩ : ∃ c : Int, subop (.val (.tuple [.int 0, .int 1, .int 0, .int 2, .int 1, .int 3])) (I (k : Nat)) = some (I c) := by
    have : k = 0 ∨ k = 1 ∨ k = 2 ∨ k = 3 ∨ k = 4 ∨ k = 5 := lt6 (by first | assumption | omega)
    rcases this with rfl | rfl | rfl | rfl | rfl | rfl <;> exact ⟨_, sub_T rfl (by decide)⟩
  obtain ⟨i, i1, i2⟩ := fmod_nat (n.fdiv 2 + c) (m := 6) (by decide)
  have m6 := modK (n.fdiv 2 + c) 6 (by decide)
  rw [show (n.fdiv 2 + c).fmod 6 = (i : Int) from i2] at m6
  have hit := pool_sub i1
  have m2 := modK (k : Nat) 2 (by decide)
  rw [show ((k : Nat) : Int).fmod 2 = ((k % 2 : Nat) : Int) from (Int.fmod_eq_emod_of_nonneg _ (by decide)).trans (by omega)] at m2
  obtain ⟨z, hz1, hz2⟩ : ∃ z : Bool, subop (.val (.tuple [.str ⟨#[105, 110]⟩, .str ⟨#[110, 105]⟩])) (I ((k % 2 : Nat) : Int)) = some (S (if z = true then [105, 110] else [110, 105])) ∧ cmpop .Eq (S (if z = true then [105, 110] else [110, 105])) (.val (.str ⟨#[105, 110]⟩)) = some z := by
    have : k % 2 = 0 ∨ k % 2 = 1 := by omega
    rcases this with h | h <;> rw [h]
    · exact ⟨true, sub_T rfl (by decide), rfl⟩
    · exact ⟨false, sub_T rfl (by decide), rfl⟩
  have hin := in_lS (l := poolP i) (xs := its (p :: r)) (pool_ok i1).1 (its_all fun q hq => (hps q hq).it)
  have htx := txt_small hps
  have m4 := modK (n + k) 4 (by decide)
  obtain ⟨o, ho⟩ : ∃ o : Bool, o = decide ((n + k).fmod 4 = 3) := ⟨_, rfl⟩
  have hrl : r.length ≤ 2 := by simp at hlen; omega
  have tell := H.inn z o (a := poolP i) (l := txt (p :: r) ++ tl o) (p := p) (r := r) (by have := htx.1; rw [List.length_append]; cases o <;> simp [tl] <;> simp at hlen this <;> omega) (by rw [okS_app, htx.2]; cases o <;> decide) rfl (hps p (by simp)).ok (fun q hq => ⟨(hps q (by simp [hq])).ok, hsep q (by simpa using hq)⟩) (by omega) (pool_ok i1).1 (fun q hq => (hps q hq).it)
  generalize hany : anyEq (.str ⟨(poolP i).toArray⟩) (its (p :: r)) = an at hin tell
  generalize (if z = true then [105, 110] else [110, 105]) = op at hz1 hz2 tell
  have hg : Φ 36 [I (if (an == z) = true then 1 else 0)] = some (.ok (.val (goodP ⟨(bitL (an == z)).toArray⟩))) := by
    rw [← good_bit]
    exact H.good (by cases (an == z) <;> decide +kernel)
  have sg : Same (goodP ⟨(bitL (an == z)).toArray⟩) := same_good (strOk_S (by unfold bitL; split <;> decide))
  obtain ⟨s6, h_6⟩ : ∃ s, s = sset s5 29 (S (poolP i)) := ⟨_, rfl⟩
  obtain ⟨s7, h_7⟩ : ∃ s, s = sset s6 7 (S op) := ⟨_, rfl⟩
  obtain ⟨s8, h_8⟩ : ∃ s, s = sset s7 14 (.val (goodP ⟨(bitL (an == z)).toArray⟩)) := ⟨_, rfl⟩
  have B6 : Bse ns s6 := h_6 ▸ B5.set (by decide) _
  have B7 : Bse ns s7 := h_7 ▸ B6.set (by decide) _
  have B8 : Bse ns s8 := h_8 ▸ B7.set (by decide) _
  have a6 := M B5 h_6 (by decide)
  have a7 := N h_7 (by decide) a6
  have a8 := N h_8 (by decide) a7
  have o7 := M B6 h_7 (by decide)
  have o8 := N h_8 (by decide) o7
  have d8 := M B7 h_8 (by decide)
  have l7 := N h_7 (by decide) (N h_6 (by decide) g25)
  have x8 := N h_8 (by decide) (N h_7 (by decide) (N h_6 (by decide) g26))
  have k6 := N h_6 (by decide) g9
  have k8 := N h_8 (by decide) (N h_7 (by decide) k6)
  have n8 := N h_8 (by decide) (N h_7 (by decide) (N h_6 (by decide) g10))
  have q1 : evS Φ 1000 (.assign 29 (.sub (.var 24) (.bin .Mod (.bin .Add (.bin .FloorDiv (.var 10) (.lit (.int (2)))) (.sub (.tup [(.lit (.int (0))), (.lit (.int (1))), (.lit (.int (0))), (.lit (.int (2))), (.lit (.int (1))), (.lit (.int (3)))]) (.var 9))) (.lit (.int (6)))))) s5 = some (.ok (.next s6)) := by
    rw [h_6]; refine s_assign_ok ?_ rfl
    simp [g24, g10, d2, g9, okSize, c1, m6, hit]
  have q2 : evS Φ 1000 (.assign 7 (.sub (.tup [(.lit (.str ⟨#[105, 110]⟩)), (.lit (.str ⟨#[110, 105]⟩))]) (.bin .Mod (.var 9) (.lit (.int (2)))))) s6 = some (.ok (.next s7)) := by
    rw [h_7]; refine s_assign_ok ?_ rfl
    simp only [e_sub, e_tup, es_cons, e_lit, eb_ok, es_nil, datas_cons, flat_str, if_true, datas_nil, Option.map_some, Option.bind_some, e_bin, e_var, k6, view_val, lift_some, m2]
    simp only [okSize]
    exact congrArg lift hz1
  have q3 : evS Φ 1000 (.assign 14 (.call 36 [(.ife (.cmp .Eq (.cmp .In (.var 29) (.var 25)) (.cmp .Eq (.var 7) (.lit (.str ⟨#[105, 110]⟩)))) (.lit (.int (1))) (.lit (.int (0))))])) s7 = some (.ok (.next s8)) := by
    rw [h_8]; refine s_assign_ok ?_ sg.2
    generalize goodP ⟨(bitL (an == z)).toArray⟩ = gp at *
    have e : evE Φ (.ife (.cmp .Eq (.cmp .In (.var 29) (.var 25)) (.cmp .Eq (.var 7) (.lit (.str ⟨#[105, 110]⟩)))) (.lit (.int (1))) (.lit (.int (0)))) s7 = some (.ok (I (if (an == z) = true then 1 else 0))) := by
      rw [e_ife, t_cmp, e_cmp, e_var, a7]
      simp only [Option.map_some, view_val, lift_some, eb_ok, e_var, l7, view_own, hin, e_cmp, o7, e_lit, hz2, eq_bb]
      cases (an == z) <;> rfl
    rw [e_call, es_cons, e, eb_ok, es_nil, eb_ok, eb_ok, hg]
  show ∃ σ', evSs Φ 1000 (_ :: _ :: _ :: _) s5 = _ ∧ _
  rw [ss_cons, q1, sb_next, ss_cons, q2, sb_next, ss_cons, q3, sb_next]
  clear q1 q2 q3
  cases o with
  | false =>
    refine ⟨s8, ?_, B8⟩
    have hne : ¬ (n + (k : Int)).fmod 4 = 3 := by
      intro h
      rw [decide_eq_true h] at ho
      cases ho
    have tell : Tell Φ op [.str ⟨(poolP i).toArray⟩, .str ⟨(txt (p :: r)).toArray⟩] (goodP ⟨(bitL (an == z)).toArray⟩) := by
      have e : txt (p :: r) ++ tl false = txt (p :: r) := List.append_nil _
      rw [e] at tell
      exact tell
    rw [ss_cons, ite_no (by simp [n8, k8, m4, hne]), sb_next, ss_cons, ph6_last o8 a8 x8 d8 sg tell, sb_next, ss_nil]
  | true =>
    have heq : (n + (k : Int)).fmod 4 = 3 := by
      by_cases h : (n + (k : Int)).fmod 4 = 3
      · exact h
      · rw [decide_eq_false h] at ho; cases ho
    obtain ⟨s9, h_9⟩ : ∃ s, s = sset s8 26 (S (txt (p :: r) ++ [32, 123, 120])) := ⟨_, rfl⟩
    obtain ⟨s10, h_10⟩ : ∃ s, s = sset s9 14 (.val (failP openMsg (.tuple openEc))) := ⟨_, rfl⟩
    have B9 : Bse ns s9 := h_9 ▸ B8.set (by decide) _
    have B10 : Bse ns s10 := h_10 ▸ B9.set (by decide) _
    have a10 := N h_10 (by decide) (N h_9 (by decide) a8)
    have o10 := N h_10 (by decide) (N h_9 (by decide) o8)
    have x10 := N h_10 (by decide) (M B8 h_9 (by decide))
    have d10 := M B9 h_10 (by decide)
    refine ⟨s10, ?_, B10⟩
    have a3 := add_S (a := txt (p :: r)) (b := [32, 123, 120]) (by have := htx.1; simp at hlen this ⊢; omega)
    have r1 : evS Φ 1000 (.assign 26 (.bin .Add (.var 26) (.lit (.str ⟨#[32, 123, 120]⟩)))) s8 = some (.ok (.next s9)) := by
      rw [h_9]; refine s_assign_ok ?_ rfl
      rw [e_bin, e_var, x8, e_lit]
      exact congrArg lift a3
    have r2 : evS Φ 1000 (.assign 14 (.tup [(.lit (.int (1))), (.lit (.str ⟨#[117, 110, 109, 97, 116, 99, 104, 101, 100, 32, 111, 112, 101, 110, 32, 98, 114, 97, 99, 101, 32, 105, 110, 32, 108, 105, 115, 116]⟩)), (.tup [(.lit (.str ⟨#[84, 67, 76]⟩)), (.lit (.str ⟨#[86, 65, 76, 85, 69]⟩)), (.lit (.str ⟨#[76, 73, 83, 84]⟩)), (.lit (.str ⟨#[66, 82, 65, 67, 69]⟩))])])) s9 = some (.ok (.next s10)) := by
      rw [h_10]; refine s_assign_ok ?_ same_open.2
      simp [okSize, failP, openMsg, openEc]
    have tt : evT Φ (.cmp .Eq (.bin .Mod (.bin .Add (.var 10) (.var 9)) (.lit (.int (4)))) (.lit (.int (3)))) s8 = some (.ok true) := by
      simp [n8, k8, m4, heq]
    rw [ss_cons, s_ite, tt, eb_ok, if_pos rfl, ss_cons, r1, sb_next, ss_cons, r2, sb_next, ss_nil, sb_next, ss_cons, ph6_last o10 a10 x10 d10 same_open tell, sb_next, ss_nil]
end NP
end
section
open PySem PySem.Calls PyProof.Rows PySem.W PySem.Spec
set_option maxRecDepth 100000
namespace NP

theorem law_true {ns : List Int} (hns : ns.length ≤ 63) : evCall tbl 1000 12 46 [scr ns] = some (.ok (.val (.bool true))) := by
  have H := phi11
  rw [ev_fn (d := 11) (i := 46) (c := f_law) rfl (by decide) rfl rfl]
  have hst : (([scr ns].map some ++ List.replicate (f_law.nm.length - f_law.np) none : Store)) = some (scr ns) :: List.replicate 29 none := rfl
  rw [hst]
  have P1t : ∀ k σ, k < 11 → P1 ns k σ → ∃ σ', evSs (evCall tbl 1000 11) 1000 ph1 (sset σ 3 (I (k : Nat))) = some (.ok (.next σ')) ∧ P1 ns (k + 1) σ' := fun k σ hk hp => ph1_turn 10 hns k σ hk hp
  generalize evCall tbl 1000 11 = Φ at *
  obtain ⟨a0, h_0⟩ : ∃ s : Store, s = some (scr ns) :: List.replicate 29 none := ⟨_, rfl⟩
  obtain ⟨a1, h_1⟩ : ∃ s, s = sset a0 1 (.val (.tuple opsD)) := ⟨_, rfl⟩
  obtain ⟨a2, h_2⟩ : ∃ s, s = sset a1 2 (.own []) := ⟨_, rfl⟩
  have B2 : P1 ns 0 a2 := by
    have l0 : a0.length = 30 := by rw [h_0]; rfl
    have g0 : sget a0 0 = some (scr ns) := by rw [h_0]; rfl
    refine ⟨⟨by rw [h_2, ss_len, h_1, ss_len]; exact l0, ?_, ?_⟩, [], ?_, (fun r h => by cases h), Nat.le_refl _⟩
    · rw [h_2, ss_sget_ne (by decide), h_1, ss_sget_ne (by decide)]; exact g0
    · rw [h_2, ss_sget_ne (by decide), h_1]; exact ss_sget_self (by rw [l0]; decide)
    · rw [h_2]; exact ss_sget_self (by rw [h_1, ss_len, l0]; decide)
  have q1 : evS Φ 1000 (.assign 1 (.tup [(.lit (.str ⟨#[43]⟩)), (.lit (.str ⟨#[45]⟩)), (.lit (.str ⟨#[42]⟩)), (.lit (.str ⟨#[47]⟩)), (.lit (.str ⟨#[37]⟩)), (.lit (.str ⟨#[42, 42]⟩)), (.lit (.str ⟨#[60, 60]⟩)), (.lit (.str ⟨#[62, 62]⟩)), (.lit (.str ⟨#[38]⟩)), (.lit (.str ⟨#[124]⟩)), (.lit (.str ⟨#[94]⟩))])) a0 = some (.ok (.next a1)) := by
    rw [h_1]; refine s_assign_ok ?_ rfl
    simp [okSize, opsD, opsL]
  have q2 : evS Φ 1000 (.assign 2 (.lst [])) a1 = some (.ok (.next a2)) := by
    rw [h_2]; refine s_assign_ok ?_ rfl
    simp [okSize]
  obtain ⟨a3, e3, p3⟩ := s_range (Φ := Φ) (N := 1000) (b := ph1) (i := 3) (n := 11) (it := .lit (.int 11)) (P1 ns) (by rw [e_lit]; rfl) (by decide) P1t B2
  obtain ⟨a4, rows, e4, b4, g4, r4, l4⟩ := mid_ok H hns p3
  have hlen : evE Φ (.len (.var 2)) a4 = some (.ok (I (rows.length : Nat))) := by
    have := len_L (xs := rows) (by omega)
    rw [e_len, e_var, g4]
    simp only [Option.map_some, view_own, lift_some, eb_ok, this]
  obtain ⟨a5, e5, p5⟩ := s_range (Φ := Φ) (N := 1000) (b := ph2) (i := 3) (P2 ns rows) hlen (by omega) (fun k σ hk hp => ph2_turn H hns r4 l4 k σ hk hp) ⟨b4, g4⟩
  obtain ⟨a6, e6, p6⟩ := s_range (Φ := Φ) (N := 1000) (b := ph3) (i := 9) (n := 6) (it := .lit (.int 6)) (PB ns) (by rw [e_lit]; rfl) (by decide) (fun k σ hk hp => ph3_turn H hns k σ hk hp) p5.1
  obtain ⟨a7, e7, p7⟩ := s_range (Φ := Φ) (N := 1000) (b := ph4) (i := 9) (n := 6) (it := .lit (.int 6)) (PB ns) (by rw [e_lit]; rfl) (by decide) (fun k σ hk hp => ph4_turn H hns k σ hk hp) p6
  obtain ⟨a8, e8, p8⟩ := s_range (Φ := Φ) (N := 1000) (b := ph5h ++ [.forT [22, 23] ph5it ph5i]) (i := 9) (n := 12) (it := .lit (.int 12)) (PB ns) (by rw [e_lit]; rfl) (by decide) (fun k σ hk hp => ph5_turn H hns k σ hk hp) p7
  obtain ⟨a9, e9, _⟩ := s_range (Φ := Φ) (N := 1000) (b := ph6a ++ (.for1 3 (.rng ph6n) ph6i :: ph6z)) (i := 9) (n := 6) (it := .lit (.int 6)) (PB ns) (by rw [e_lit]; rfl) (by decide) (fun k σ hk hp => ph6_turn H hns k σ hk hp) p8
  rw [← h_0]
  show fin (evSs Φ 1000 (_ :: _ :: (.for1 3 (.rng (.lit (.int 11))) ph1) :: (mid ++ ((.for1 3 (.rng (.len (.var 2))) ph2) :: (.for1 9 (.rng (.lit (.int 6))) ph3) :: (.for1 9 (.rng (.lit (.int 6))) ph4) :: (.for1 9 (.rng (.lit (.int 12))) (ph5h ++ [.forT [22, 23] ph5it ph5i])) :: (.for1 9 (.rng (.lit (.int 6))) (ph6a ++ (.for1 3 (.rng ph6n) ph6i :: ph6z))) :: [.ret (.lit (.bool true))]))) a0) = _
  rw [ss_cons, q1, sb_next, ss_cons, q2, sb_next, ss_cons, e3, sb_next, ss_append, e4, sb_next, ss_cons, e5, sb_next, ss_cons, e6, sb_next, ss_cons, e7, sb_next, ss_cons, e8, sb_next, ss_cons, e9, sb_next, ss_cons, s_ret, e_lit]
  rfl
end NP
end
section
open PySem PySem.Calls PyProof.Rows PySem.W PySem.Spec
set_option maxRecDepth 100000
set_option maxHeartbeats 8000000
namespace NP
theorem said_ok : PySem.Challenge.rw_np0138_01.wellSaid = true := by
  unfold OpenLaw.wellSaid OpenRow.wellSaid OpenRow.partSaid looksOpen
  repeat' with_reducible refine look_both ?_ ?_
  all_goals decide +kernel
theorem cw_of (walk : ∀ d, defOf topView (Str.ofString "law") = some (d, []) → WalkO topView topLoose (XL topView []) (fun _ h => HK h) topR.toRowW d [] fun f vs => PySem.call f vs) : PySem.Challenge.rw_np0138_01.Holds := by
  refine holds_law said_ok fun said => ?_
  refine holds_open (q := topView) (loose := topLoose) (Xt := topX) (XP := XL topView []) (Yf := obs) (Ya := fun _ => obsVal) (YP := fun _ h => HK h) (N := 4628) top_left (fun w s e => hk_of e) (fun w h h' => HK.keeps) (fun s e => xl_of s (Bool.and_eq_true_iff.mp e).1) XL.keeps (by rfl) (by rfl) (by rfl) (fun s e => recFacts_of (Bool.and_eq_true_iff.mp e).2) (by rfl) said (by decide +kernel) ⟨rfl, rfl, rfl, rfl, rfl, by decide +kernel⟩ ⟨[WData.list []], by decide +kernel, by decide +kernel⟩ (walk _ rfl)
end NP
end
section
open PySem PySem.Calls PyProof.Rows PySem.W PySem.Spec
set_option maxRecDepth 100000
set_option maxHeartbeats 8000000
namespace NP
theorem recs_names : (recsOf topView).map (·.name) = fnames.tail := by kernel_rfl
theorem recs_comp : (recsOf topView).map (compile fnOf) = (List.range 46).map (fun i => tbl (i + 1)) := by kernel_rfl
theorem fn_at {x : Str} {i : Nat} (h : fnOf x = some i) : fnames[i]? = some x := by
  unfold fnOf at h
  rw [List.idxOf?, List.findIdx?_eq_some_iff_getElem] at h
  obtain ⟨h1, h2, _⟩ := h
  rw [List.getElem?_eq_getElem h1]
  exact congrArg some (eq_of_beq h2)
theorem calls_all {W : Wd} (O : WOK W) (X : Cls W) (hk : HK W.B0) (hi : X.mN (Str.ofString "__init__") = some (.ref 62)) (hEx : W.mg (Str.ofString "Exception") = none) (herr : W.mg (Str.ofString "error") = some (.ref 77))
    (hfn : ∀ d ∈ recsOf topView, ∃ a o pm code doc, W.mg d.name = some (.ref a) ∧ W.B0.get? a = some o ∧ o.data = .func (docDef d.name d.params d.body d.scope pm code doc) ∧ W.B0.CodeRec code d.name) :
    ∀ n, Calls W fnOf n (evCall tbl 1000 n) := by
  have herrD : ∃ o fd, W.B0.get? 77 = some o ∧ o.data = .func fd := by
    obtain ⟨o, a1, a3⟩ := hk.err
    refine ⟨o, errFdv, a1, ?_⟩
    rw [errFd_eq] at a3
    unfold fdOf at a3
    split at a3
    · rename_i fd hfd
      injection a3 with a3
      rw [hfd, a3]
    · cases a3
  intro n
  induction n with
  | zero =>
    intro x i hx
    have hat := fn_at hx
    cases i with
    | zero =>
      obtain ⟨o, fd, h1, h2⟩ := herrD
      have hx : Str.ofString "error" = x := by injection hat
      subst hx
      exact ⟨77, o, fd, herr, h1, h2, fun args A envs s vs Q E _ _ _ _ _ p => p.elim⟩
    | succ i =>
      have hat : fnames.tail[i]? = some x := by rw [List.getElem?_tail]; exact hat
      rw [← recs_names, List.getElem?_map] at hat
      obtain ⟨d, hd, hdn⟩ := Option.map_eq_some_iff.mp hat
      obtain ⟨a, o, pm, code, doc, h1, h2, h3, h4⟩ := hfn d (List.mem_of_getElem? hd)
      exact ⟨a, o, _, hdn ▸ h1, h2, h3, fun args A envs s vs Q E _ _ _ _ _ p => p.elim⟩
  | succ n ih =>
    intro x i hx
    have hat := fn_at hx
    cases i with
    | zero =>
      obtain ⟨o, fd, h1, h2⟩ := herrD
      have hx : Str.ofString "error" = x := by injection hat
      subst hx
      exact ⟨77, o, fd, herr, h1, h2, fun args => call_err O X hk hi hEx args⟩
    | succ i =>
      have hat : fnames.tail[i]? = some x := by rw [List.getElem?_tail]; exact hat
      rw [← recs_names, List.getElem?_map] at hat
      obtain ⟨d, hd, hdn⟩ := Option.map_eq_some_iff.mp hat
      obtain ⟨a, o, pm, code, doc, h1, h2, h3, h4⟩ := hfn d (List.mem_of_getElem? hd)
      have hc : some (compile fnOf d) = (List.range 46)[i]?.map (fun i => tbl (i + 1)) := by
        rw [← List.getElem?_map, ← recs_comp, List.getElem?_map, hd]; rfl
      have hc : compile fnOf d = tbl (i + 1) := by
        cases hr : (List.range 46)[i]? with
        | none => rw [hr] at hc; cases hc
        | some k =>
          rw [hr] at hc
          injection hc with hc
          have := (List.getElem?_eq_some_iff.mp hr)
          obtain ⟨q1, q2⟩ := this
          rw [List.getElem_range] at q2
          rw [hc, q2]
      refine ⟨a, o, _, hdn ▸ h1, h2, h3, fun args => ?_⟩
      have e : evCall tbl 1000 (n + 1) (i + 1) args = match tbl (i + 1) with
        | some c => runFn (evCall tbl 1000 n) 1000 c args
        | none => none := by
        rw [evCall, if_neg (show ¬ i + 1 = fidError from Nat.succ_ne_zero i)]
        try (cases tbl (i + 1) <;> rfl)
      rw [e]
      cases ht : tbl (i + 1) with
      | none => exact fun A envs s vs Q E _ _ _ _ _ p => p.elim
      | some c => exact call_fn O X ih (hc.trans ht) h2 h3 h4 args
end NP
end
open PySem PySem.Calls PyProof.Rows PySem.W PySem.Spec
set_option maxRecDepth 100000
set_option maxHeartbeats 8000000
namespace NP
theorem ints_of : ∀ xs : List WData, WShape.hasItems [] xs .int = true → ∃ ns : List Int, xs = ofPys (ns.map .int)
  | [], _ => ⟨[], rfl⟩
  | x :: xs, h => by
    simp only [WShape.hasItems, Bool.and_eq_true] at h
    obtain ⟨i, rfl⟩ := hasW_int h.1
    obtain ⟨ns, rfl⟩ := ints_of xs h.2
    exact ⟨i :: ns, rfl⟩
theorem ofPys_length : ∀ xs : List PyData, (ofPys xs).length = xs.length
  | [] => rfl
  | _ :: xs => congrArg (· + 1) (ofPys_length xs)
theorem args_of {args : List WData} (h : (OpenRow.toRowW PySem.Challenge.rw_np0138_01.row).claim.pre args = true) : ∃ ns : List Int, args = ofPys [.list (ns.map .int)] ∧ ns.length ≤ 63 := by
  obtain ⟨h1, h2⟩ := pre_splitW h
  obtain ⟨d, r, rfl, h3, h4⟩ := hasAllW_cons h1
  obtain rfl := hasAllW_nil h4
  obtain ⟨xs, rfl, h5⟩ := hasW_list h3
  obtain ⟨ns, rfl⟩ := ints_of xs h5
  refine ⟨ns, rfl, ?_⟩
  have h6 := (holds_andW h2).1
  have e : (ofPys (ns.map .int)).length = ns.length := by rw [ofPys_length, List.length_map]
  generalize hxs : ofPys (ns.map .int) = xs at h6 e
  rw [← e]
  have h6 : (WTm.not (WTm.lt (WTm.lit (WData.int 63)) (WTm.len (WTm.arg 0)))).holds [] { args := [WData.list xs] } = true := h6
  have hl : PySem.W.less? (.int 63) (.int xs.length) = some (decide ((63 : Int) < xs.length)) := rfl
  unfold WTm.holds at h6
  simp only [WTm.value, List.getElem?_cons_zero, hl, Option.map_some] at h6
  by_cases q : (63 : Int) < xs.length
  · rw [decide_eq_true q] at h6; cases h6
  · omega

theorem free_ok : (["len", "ord", "abs", "str", "min", "max", "range", "Exception"] : List String).all (fun x => let y := Str.ofString x; !startupNames.contains y && !(looseW topView topLoose).contains y && !((recsOf topView).map (·.name)).contains y && !((litsOf topView).map (·.1)).contains y && !((clssOf topView (looseW topView topLoose)).map (·.name)).contains y) = true := by decide +kernel
theorem free_of {mean : ExcName → Option Value} {mg mb : Str → Option Value} {h : Heap} (T : Top topView (looseW topView topLoose) mean mg mb h) {x : String} (hx : x ∈ (["len", "ord", "abs", "str", "min", "max", "range", "Exception"] : List String)) : mg (Str.ofString x) = none := by
  have q := List.all_eq_true.mp free_ok x hx
  simp only [Bool.and_eq_true, Bool.not_eq_true', List.contains_eq_mem, decide_eq_false_iff_not] at q
  obtain ⟨⟨⟨⟨a, b⟩, c⟩, d⟩, e⟩ := q
  exact T.free _ a b c d e

theorem flats_ints : ∀ ns : List Int, flats (ns.map PyData.int) = true
  | [] => rfl
  | _ :: ns => flats_ints ns

theorem post_true (args : List WData) : topR.toRowW.claim.post args (.bool true) args = true := by
  have h1 : WShape.has topR.toRowW.records (.bool true) topR.toRowW.returns = true := by
    show WShape.has [] (.bool true) .bool = true
    decide +kernel
  have h2 : topR.toRowW.post.holds topR.toRowW.records { args := args, res := some (.bool true), after := args } = true := by
    show (WTm.eq .res (.lit (.bool true))).holds [] { args := args, res := some (.bool true), after := args } = true
    unfold WTm.holds
    simp only [WTm.value]
    have : PySem.W.same (.bool true) (.bool true) = true := by decide +kernel
    rw [this]
  exact Bool.and_eq_true_iff.mpr ⟨h1, h2⟩

theorem walk_law (d : DefRec) : defOf topView (Str.ofString "law") = some (d, []) → WalkO topView topLoose (XL topView []) (fun _ h => HK h) topR.toRowW d [] fun f vs => PySem.call f vs := by
  intro hd w s₀ s₁ mg mb G Y a o pm cd doc dV kV h1 h2 h3 h4 h5 h6 args vals as hpre hlay hrd hwell hlow
  obtain ⟨ns, rfl, hns⟩ := args_of hpre
  have T := G.T
  let W : Wd := ⟨topR.prog, w, s₁.heap, mg, mb, 65⟩
  have hEx : mg (Str.ofString "Exception") = none := free_of T (by simp)
  have O : WOK W := ⟨T.g, T.b, T.nolimit, T.builtins, fun x hx => free_of T (by
    simp only [List.mem_cons, List.not_mem_nil, or_false] at hx ⊢
    rcases hx with h | h | h | h | h | h | h <;> simp [h])⟩
  obtain ⟨mN, n1, n2, n3⟩ := Y.ns
  obtain ⟨m, g1, g2, g3⟩ := Y.gl
  have hm : m = mg := g1.eq_nsMap.trans T.g.eq_nsMap.symm
  subst hm
  let X : Cls W := { nm := Str.ofString "Raised", q := Str.ofString "Raised", N := 64, bs := [.type "Exception"], sn := [], sub := [], ab := false, col := none, dd := none, k0 := some (.ref 47), k1 := none, k2 := some (.str (Str.ofString "Raised") 234), k3 := some (.str (Str.ofString "Raised") 242), k5 := some (.bool true), mN := mN, hC := Y.cls, hn := n1, no := n3, mg := g2 }
  have H := calls_all O X Y n2 hEx g3 T.fn 12
  obtain ⟨a', o', fd, q1, q2, q3, q4⟩ := H (Str.ofString "law") 46 (by decide +kernel)
  have hdn : d.name = Str.ofString "law" := defOf_name hd
  have ea : a' = a := by
    have : m (Str.ofString "law") = some (.ref a) := hdn ▸ h5
    have z := q1.symm.trans this
    injection z with z
    injection z
  subst ea
  cases vals with
  | nil => cases hrd
  | cons v vs =>
    obtain ⟨v', vs', as1, as2, e1, e2, r1, r2⟩ := readsAllW_cons_inv hrd
    injection e1 with e1 e1'
    subst e1 e1'
    obtain ⟨rfl, _⟩ := readsAllW_nil_inv r2
    have rd : Reads s₁.heap v (.list (ns.map .int)) as1 := reads_of_readsW (.list (ns.map .int)) r1
    have fl : flats (ns.map PyData.int) = true := flats_ints ns
    refine q4 [scr ns] callerA [] s₁ [v] _ _ rfl ⟨rfl, by decide +kernel, by decide +kernel⟩ (fun _ _ e => e) trivial ⟨⟨.inr ⟨_, rfl, fl⟩, _, rd⟩, trivial⟩ ?_
    rw [law_true hns]
    intro v h' tk g y
    obtain ⟨_, as', ry⟩ := y
    have hv : v = .bool true := by cases ry; rfl
    subst hv
    refine ⟨.inl ⟨.bool true, .bool true, [], rfl, fun _ => rfl, .bool _, post_true _, fun _ => ⟨.nil, fun a h => by cases h⟩⟩, .of_keep fun b o e => (g b o e).1 (fun h => by cases h), rfl, ?_⟩
    exact .of_eq h6

end NP
theorem PySem.Challenge.cw_np0138_01_holds : PySem.Challenge.rw_np0138_01.Holds :=
  NP.cw_of NP.walk_law
