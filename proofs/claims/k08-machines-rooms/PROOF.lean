import PyProof.Rows.All
import Wide.All
import OpenK.AllK
import Wide.FinOn
import HandS.ForMost
import HandS.IsInst
import HandS.Wide
import HandS.Style
import HandS.Conv
import HandS.FStr
import HandS.Gcd
import HandS.NoneIn
import HandS.Zip
import HandS.TupAny
import HandS.Exc
import HandS.ExcOwn
import HandS.TryOnly
import HandS.TryMany
import HandS.WordsExc
import HandS.ExcCtx
import HandS.Hot
import HandS.HotCalls
import HandS.SuiteRaise
import HandS.RaiseFrom
import HandS.ExcInit
import HandS.ExcInitHot
import HandS.ExcField
import HandS.ExcIs
import HandS.CallSlots
import OpenK.KCls
import KE.KTryMore
import KE.GoesMore
import HandS.Zip0
import KE.KMathG
import HandS.SlotsOwn
import PySem.Challenge.RW_truebooks_k08_whole_machines_and_rooms_t
set_option Elab.async false
set_option linter.all false
set_option maxRecDepth 100000
set_option maxHeartbeats 4000000
/-! Ka: data in the abstract heap (Dt), by plain data; rules by data. -/
namespace K8
open PySem L2

/-! ### what stands outside the moving cells -/
/-- all that N lets through is kept -/
def Kp (N : Addr → Prop) (H H' : Hp) : Prop := ∀ b o, N b → H b = some o → H' b = some o
theorem Kp.refl {N : Addr → Prop} {H : Hp} : Kp N H H := fun _ _ _ h => h
theorem Kp.trans {N : Addr → Prop} {H H1 H2 : Hp} (a : Kp N H H1) (b : Kp N H1 H2) : Kp N H H2 := fun c o n h => b c o n (a c o n h)
theorem Kp.same {N : Addr → Prop} {H H' : Hp} (s : Same H H') : Kp N H H' := fun b o _ h => s b o h
theorem Kp.sub {N N' : Addr → Prop} {H H' : Hp} (a : Kp N H H') (h : ∀ b, N' b → N b) : Kp N' H H' := fun b o n e => a b o (h b n) e
theorem same_new {H : Hp} {p : Addr} {o : HO} (h : H p = none) : Same H (upd H p o) := fun b u e => by
  rw [upd_ne (ne_of_none e h)]; exact e
theorem Kp.new {N : Addr → Prop} {H : Hp} {p : Addr} {o : HO} (h : H p = none) : Kp N H (upd H p o) := .same (same_new h)
theorem Kp.put {N : Addr → Prop} {H : Hp} {p : Addr} {o : HO} (h : ¬ N p) : Kp N H (upd H p o) := fun b u n e => by
  rw [upd_ne (fun z => h (by rw [← z]; exact n))]; exact e

/-! ### plain data in the heap -/
mutual
inductive Dt (N : Addr → Prop) (H : Hp) : PyData → V → Prop
  | non : Dt N H .none .non
  | bl (b : Bool) : Dt N H (.bool b) (.bl b)
  | int (i : Int) : Dt N H (.int i) (.int i)
  | str (x : Str) : Dt N H (.str x) (.str x)
  | lst {a : Addr} {xs : List V} {ds : List PyData} (n : N a) (h : H a = some (.lst xs)) (r : DtL N H ds xs) : Dt N H (.list ds) (.ref a)
  | tup {a : Addr} {xs : List V} {ds : List PyData} (n : N a) (h : H a = some (.tup xs)) (r : DtL N H ds xs) : Dt N H (.tuple ds) (.ref a)
inductive DtL (N : Addr → Prop) (H : Hp) : List PyData → List V → Prop
  | nil : DtL N H [] []
  | cons {d : PyData} {v : V} {ds : List PyData} {vs : List V} (h : Dt N H d v) (r : DtL N H ds vs) : DtL N H (d :: ds) (v :: vs)
end

section
variable {N N' : Addr → Prop} {H H' : Hp}
mutual
theorem Dt.mono (hn : ∀ b, N b → N' b) (hk : Kp N H H') : ∀ {d : PyData} {v : V}, Dt N H d v → Dt N' H' d v
  | _, _, .non => .non
  | _, _, .bl b => .bl b
  | _, _, .int i => .int i
  | _, _, .str x => .str x
  | _, _, .lst n h r => .lst (hn _ n) (hk _ _ n h) (DtL.mono hn hk r)
  | _, _, .tup n h r => .tup (hn _ n) (hk _ _ n h) (DtL.mono hn hk r)
theorem DtL.mono (hn : ∀ b, N b → N' b) (hk : Kp N H H') : ∀ {ds : List PyData} {vs : List V}, DtL N H ds vs → DtL N' H' ds vs
  | _, _, .nil => .nil
  | _, _, .cons h r => .cons (Dt.mono hn hk h) (DtL.mono hn hk r)
end
theorem Dt.kp (h : Dt N H d v) (hk : Kp N H H') : Dt N H' d v := h.mono (fun _ z => z) hk
theorem DtL.kp {ds : List PyData} {vs : List V} (h : DtL N H ds vs) (hk : Kp N H H') : DtL N H' ds vs := h.mono (fun _ z => z) hk
theorem Dt.same (h : Dt N H d v) (s : Same H H') : Dt N H' d v := h.kp (.same s)
theorem DtL.same {ds : List PyData} {vs : List V} (h : DtL N H ds vs) (s : Same H H') : DtL N H' ds vs := h.kp (.same s)
theorem Dt.sub (h : Dt N H d v) (hn : ∀ b, N b → N' b) : Dt N' H d v := h.mono hn .refl
theorem DtL.sub {ds : List PyData} {vs : List V} (h : DtL N H ds vs) (hn : ∀ b, N b → N' b) : DtL N' H ds vs := h.mono hn .refl
theorem DtL.len : ∀ {ds : List PyData} {vs : List V}, DtL N H ds vs → ds.length = vs.length
  | _, _, .nil => rfl
  | _, _, .cons _ r => by rw [List.length_cons, List.length_cons, DtL.len r]
theorem DtL.get : ∀ {ds : List PyData} {vs : List V} {i : Nat} {d : PyData}, DtL N H ds vs → ds[i]? = some d → ∃ v, vs[i]? = some v ∧ Dt N H d v
  | _, _, 0, _, .cons h _, e => by
    simp at e; subst e; exact ⟨_, rfl, h⟩
  | _, _, i + 1, _, .cons _ r, e => by
    obtain ⟨v, h1, h2⟩ := DtL.get (i := i) r (by simpa using e)
    exact ⟨v, by simpa using h1, h2⟩
theorem DtL.getV : ∀ {ds : List PyData} {vs : List V} {i : Nat} {v : V}, DtL N H ds vs → vs[i]? = some v → ∃ d, ds[i]? = some d ∧ Dt N H d v
  | _, _, 0, _, .cons h _, e => by
    simp at e; subst e; exact ⟨_, rfl, h⟩
  | _, _, i + 1, _, .cons _ r, e => by
    obtain ⟨v, h1, h2⟩ := DtL.getV (i := i) r (by simpa using e)
    exact ⟨v, by simpa using h1, h2⟩
theorem DtL.app : ∀ {ds es : List PyData} {vs ws : List V}, DtL N H ds vs → DtL N H es ws → DtL N H (ds ++ es) (vs ++ ws)
  | _, _, _, _, .nil, r => r
  | _, _, _, _, .cons h r, s => .cons h (DtL.app r s)
theorem DtL.one (h : Dt N H d v) : DtL N H [d] [v] := .cons h .nil
theorem DtL.take : ∀ {ds : List PyData} {vs : List V} (n : Nat), DtL N H ds vs → DtL N H (ds.take n) (vs.take n)
  | _, _, 0, _ => by simpa using DtL.nil
  | _, _, n + 1, .nil => by simpa using DtL.nil
  | _, _, n + 1, .cons h r => by simpa using DtL.cons h (DtL.take n r)
theorem DtL.drop : ∀ {ds : List PyData} {vs : List V} (n : Nat), DtL N H ds vs → DtL N H (ds.drop n) (vs.drop n)
  | _, _, 0, h => by simpa using h
  | _, _, n + 1, .nil => by simpa using DtL.nil
  | _, _, n + 1, .cons _ r => by simpa using DtL.drop n r
/-- a new tuple, a new list of data -/
theorem Dt.newT {ds : List PyData} {vs : List V} {p : Addr} (hn : N p) (hp : H p = none) (r : DtL N H ds vs) : Dt N (upd H p (.tup vs)) (.tuple ds) (.ref p) :=
  .tup hn upd_same (r.kp (.new hp))
theorem Dt.newL {ds : List PyData} {vs : List V} {p : Addr} (hn : N p) (hp : H p = none) (r : DtL N H ds vs) : Dt N (upd H p (.lst vs)) (.list ds) (.ref p) :=
  .lst hn upd_same (r.kp (.new hp))
mutual
theorem Dt.dp {K : PySem.W.Frag} : ∀ {d : PyData} {v : V}, Dt N H d v → Dp K H v d
  | _, _, .non => .non
  | _, _, .bl b => .bl b
  | _, _, .int i => .int i
  | _, _, .str x => .str x
  | _, _, .lst _ h r => .lst (SqL.of h) (DtL.dp r)
  | _, _, .tup _ h r => .tup (SqT.of h) (DtL.dp r)
theorem DtL.dp {K : PySem.W.Frag} : ∀ {ds : List PyData} {vs : List V}, DtL N H ds vs → DpAll K H vs ds
  | _, _, .nil => .nil
  | _, _, .cons h r => .cons (Dt.dp h) (DtL.dp r)
end
end

/-! ### kinds -/
/-- the built-in class of a datum -/
def kd : PyData → String
  | .none => "NoneType" | .bool _ => "bool" | .int _ => "int" | .str _ => "str" | .list _ => "list" | .tuple _ => "tuple" | .dict _ => "dict"
def isInt : PyData → Bool
  | .int _ => true | .bool _ => true | _ => false
def isBool : PyData → Bool
  | .bool _ => true | _ => false
def isStr : PyData → Bool
  | .str _ => true | _ => false
/-- the items of a list or a tuple -/
def seqOf : PyData → Option (List PyData)
  | .list ds => some ds | .tuple ds => some ds | _ => none
theorem Dt.ty {K : PySem.W.Frag} {N : Addr → Prop} {H : Hp} : ∀ {d : PyData} {v : V}, Dt N H d v → TyX K H v (.type (kd d))
  | _, _, .non => .base .non
  | _, _, .bl b => .base (.bl b)
  | _, _, .int i => .base (.int i)
  | _, _, .str x => .base (.str x)
  | _, _, .lst _ h _ => .base (.lst h)
  | _, _, .tup _ h _ => .base (.tup h)
theorem kit_int {K : PySem.W.Frag} {N : Addr → Prop} {H : Hp} {d : PyData} {v : V} (h : Dt N H d v) : PySem.W.kitOne K (.type (kd d)) (.type "int") = some (isInt d) := by
  cases h with
  | non => exact kit_ty (show kitB "NoneType" "int" = some false by decide +kernel)
  | bl => exact kit_ty (show kitB "bool" "int" = some true by decide +kernel)
  | int => exact kit_ty (show kitB "int" "int" = some true by decide +kernel)
  | str => exact kit_ty (show kitB "str" "int" = some false by decide +kernel)
  | lst => exact kit_ty (show kitB "list" "int" = some false by decide +kernel)
  | tup => exact kit_ty (show kitB "tuple" "int" = some false by decide +kernel)
theorem kit_bool {K : PySem.W.Frag} {N : Addr → Prop} {H : Hp} {d : PyData} {v : V} (h : Dt N H d v) : PySem.W.kitOne K (.type (kd d)) (.type "bool") = some (isBool d) := by
  cases h with
  | non => exact kit_ty (show kitB "NoneType" "bool" = some false by decide +kernel)
  | bl => exact kit_ty (show kitB "bool" "bool" = some true by decide +kernel)
  | int => exact kit_ty (show kitB "int" "bool" = some false by decide +kernel)
  | str => exact kit_ty (show kitB "str" "bool" = some false by decide +kernel)
  | lst => exact kit_ty (show kitB "list" "bool" = some false by decide +kernel)
  | tup => exact kit_ty (show kitB "tuple" "bool" = some false by decide +kernel)
theorem kit_str {K : PySem.W.Frag} {N : Addr → Prop} {H : Hp} {d : PyData} {v : V} (h : Dt N H d v) : PySem.W.kitOne K (.type (kd d)) (.type "str") = some (isStr d) := by
  cases h with
  | non => exact kit_ty (show kitB "NoneType" "str" = some false by decide +kernel)
  | bl => exact kit_ty (show kitB "bool" "str" = some false by decide +kernel)
  | int => exact kit_ty (show kitB "int" "str" = some false by decide +kernel)
  | str => exact kit_ty (show kitB "str" "str" = some true by decide +kernel)
  | lst => exact kit_ty (show kitB "list" "str" = some false by decide +kernel)
  | tup => exact kit_ty (show kitB "tuple" "str" = some false by decide +kernel)
theorem kit_list {K : PySem.W.Frag} {N : Addr → Prop} {H : Hp} {d : PyData} {v : V} (h : Dt N H d v) : PySem.W.kitOne K (.type (kd d)) (.type "list") = some (kd d == "list") := by
  cases h with
  | non => exact kit_ty (show kitB "NoneType" "list" = some false by decide +kernel)
  | bl => exact kit_ty (show kitB "bool" "list" = some false by decide +kernel)
  | int => exact kit_ty (show kitB "int" "list" = some false by decide +kernel)
  | str => exact kit_ty (show kitB "str" "list" = some false by decide +kernel)
  | lst => exact kit_ty (show kitB "list" "list" = some true by decide +kernel)
  | tup => exact kit_ty (show kitB "tuple" "list" = some false by decide +kernel)
theorem kit_tuple {K : PySem.W.Frag} {N : Addr → Prop} {H : Hp} {d : PyData} {v : V} (h : Dt N H d v) : PySem.W.kitOne K (.type (kd d)) (.type "tuple") = some (kd d == "tuple") := by
  cases h with
  | non => exact kit_ty (show kitB "NoneType" "tuple" = some false by decide +kernel)
  | bl => exact kit_ty (show kitB "bool" "tuple" = some false by decide +kernel)
  | int => exact kit_ty (show kitB "int" "tuple" = some false by decide +kernel)
  | str => exact kit_ty (show kitB "str" "tuple" = some false by decide +kernel)
  | lst => exact kit_ty (show kitB "list" "tuple" = some false by decide +kernel)
  | tup => exact kit_ty (show kitB "tuple" "tuple" = some true by decide +kernel)
theorem kit_seq {K : PySem.W.Frag} {N : Addr → Prop} {H : Hp} {d : PyData} {v : V} (h : Dt N H d v) : PySem.W.kitAny K (.type (kd d)) [.type "list", .type "tuple"] = some (seqOf d).isSome := by
  have h1 := kit_list (K := K) h
  have h2 := kit_tuple (K := K) h
  cases h with
  | lst n h r => exact kitAny_cons h1 (fun e => Bool.noConfusion (show true = false from e)) (fun _ => rfl)
  | tup n h r => exact kitAny_cons h1 (fun _ => kitAny_cons h2 (fun e => Bool.noConfusion (show true = false from e)) (fun _ => rfl)) (fun e => Bool.noConfusion (show false = true from e))
  | _ => exact kitAny_cons h1 (fun _ => kitAny_cons h2 (fun _ => kitAny_nil) (fun e => Bool.noConfusion (show false = true from e))) (fun e => Bool.noConfusion (show false = true from e))

/-! ### rules by data -/
section
variable {X : Cx}
/-- isinstance(x, T), x a datum -/
def rIsD (T : String) (f : PyData → Bool) : List V → Hp → VK → Prop := fun xs H Q => ∃ (N : Addr → Prop) (d : PyData) (x : V), xs = [x, .ty T] ∧ Dt N H d x ∧ Q (.bl (f d)) H
theorem isi_int : CallR X (.builtin "isinstance") (rIsD "int" isInt) := fun pins s σ H xs us Q I r ⟨N, d, x, e, h, q⟩ =>
  call_isi pins s σ H xs us Q I r ⟨x, .ty "int", _, _, _, e, .ty _, h.ty, kit_int h, q⟩
theorem isi_bool : CallR X (.builtin "isinstance") (rIsD "bool" isBool) := fun pins s σ H xs us Q I r ⟨N, d, x, e, h, q⟩ =>
  call_isi pins s σ H xs us Q I r ⟨x, .ty "bool", _, _, _, e, .ty _, h.ty, kit_bool h, q⟩
theorem isi_str : CallR X (.builtin "isinstance") (rIsD "str" isStr) := fun pins s σ H xs us Q I r ⟨N, d, x, e, h, q⟩ =>
  call_isi pins s σ H xs us Q I r ⟨x, .ty "str", _, _, _, e, .ty _, h.ty, kit_str h, q⟩
/-- isinstance(x, (list, tuple)) -/
def rIsSq : List V → Hp → VK → Prop := fun xs H Q => ∃ (N : Addr → Prop) (d : PyData) (x : V) (tp : Addr), xs = [x, .ref tp] ∧ H tp = some (.tup [.ty "list", .ty "tuple"]) ∧ Dt N H d x ∧ Q (.bl (seqOf d).isSome) H
theorem isi_seq : CallR X (.builtin "isinstance") rIsSq := fun pins s σ H xs us Q I r ⟨N, d, x, tp, e, ht, h, q⟩ =>
  call_isiT pins s σ H xs us Q I r ⟨x, tp, _, _, _, _, e, ht, .cons (.ty _) (.cons (.ty _) .nil), h.ty, kit_seq h, q⟩
/-- len(x) -/
def rLenD : List V → Hp → VK → Prop := fun xs H Q => ∃ (N : Addr → Prop) (d : PyData) (x : V) (ds : List PyData), xs = [x] ∧ Dt N H d x ∧ seqOf d = some ds ∧ Q (.int (ds.length : Nat)) H
theorem len_dt : CallR X (.builtin "len") rLenD := fun pins s σ H xs us Q I r ⟨N, d, x, ds, e, h, hs, q⟩ => by
  cases h with
  | lst n h r' =>
    cases hs
    exact call_len_seq pins s σ H xs us Q I r ⟨_, _, e, .inl (SqL.of h), by rw [← r'.len]; exact q⟩
  | tup n h r' =>
    cases hs
    exact call_len_seq pins s σ H xs us Q I r ⟨_, _, e, .inr (SqT.of h), by rw [← r'.len]; exact q⟩
  | _ => cases hs
/-- x[i] -/
def rIxDt : R2 := fun x y H Q => ∃ (N : Addr → Prop) (d : PyData) (ds : List PyData) (i : Nat) (e : PyData), Dt N H d x ∧ y = .int (i : Int) ∧ seqOf d = some ds ∧ ds[i]? = some e ∧ ∀ v, Dt N H e v → Q v H
theorem ix_dt : IxR X rIxDt := fun value slice pins s σ H x y v u Q I rx ry ⟨N, d, ds, i, e, h, ey, hs, hi, q⟩ hsub => by
  cases h with
  | lst n h r' =>
    cases hs
    obtain ⟨w, hw, hd⟩ := r'.get hi
    exact ix_list value slice pins s σ H _ y v u Q I rx ry ⟨_, _, _, w, rfl, ey, SqL.of h, atI_nat hw, q w hd⟩ hsub
  | tup n h r' =>
    cases hs
    obtain ⟨w, hw, hd⟩ := r'.get hi
    exact ix_tup value slice pins s σ H _ y v u Q I rx ry ⟨_, _, _, w, rfl, ey, SqT.of h, atI_nat hw, q w hd⟩ hsub
  | _ => cases hs
/-- ==, != of data -/
def rEqDt (neg : Bool) : R2 := fun x y H Q => ∃ (N : Addr → Prop) (d e : PyData), Dt N H d x ∧ Dt N H e y ∧ SeqAt.shaped d = true ∧ SeqAt.shaped e = true ∧ Q (.bl (if neg then !PyData.eqv d e else PyData.eqv d e)) H
theorem eq_dt (hu : X.A.units + 64 < cLine) : OpR X (compareOp .Eq) (rEqDt false) := fun pins s σ H x y v u Q I rx ry ⟨N, d, e, h1, h2, s1, s2, q⟩ =>
  op_eqD hu pins s σ H x y v u Q I rx ry ⟨d, e, h1.dp, h2.dp, s1, s2, q⟩
theorem ne_dt (hu : X.A.units + 64 < cLine) : OpR X (compareOp .NotEq) (rEqDt true) := fun pins s σ H x y v u Q I rx ry ⟨N, d, e, h1, h2, s1, s2, q⟩ =>
  op_neD hu pins s σ H x y v u Q I rx ry ⟨d, e, h1.dp, h2.dp, s1, s2, q⟩
end
end K8
set_option maxRecDepth 100000
set_option maxHeartbeats 4000000
/-! Kx: own exceptions made anywhere (calm or not); an except suite that is one «raise .. from None»; contexts two deep. -/
namespace K8
open PySem PySem.Spec PyProof.Rows L2 L2H

/-! ### a def that may run while an exception is handled, and lets nothing out -/
abbrev SpQ := List V → Hp → VK → Prop
structure FnQ (P : Program) (w : World) (K : PySem.W.Frag) (mg : Str → Option Value) (base : Heap) (k : Nat) (f : Addr) (fd : FuncData) (ps : List Str) (sp : SpQ) : Prop where
  len : ∀ vs H Q, sp vs H Q → vs.length = ps.length
  run : ∀ (A : Around) (outer : List Env) (s : Shared) (H : Hp) (us : List Value) (vs : List V) (Q : VK), RoomH k A → Env0 P w K mg base A outer s H → BindsTo s fd ⟨us, []⟩ (ps.zip us) → Vals vs us → sp vs H Q →
    codeAny (model P w) A (.call (.ref f) ⟨us, []⟩) (CR CX0 outer P w H s Q E0) s
/-- its body's context -/
def cxQ (P : Program) (w : World) (K : PySem.W.Frag) (mg : Str → Option Value) (base : Heap) (N : List Str) (qual : Str) (scope : Scope) (f : Addr) (cd : Value) (A : Around) (outer : List Env) (s : Shared) (H : Hp) : Cx :=
  { cxOf CX0 P w K mg base N qual scope f cd A outer s H E0 with calm := false }
section
variable {P : Program} {w : World} {K : PySem.W.Frag} {mg : Str → Option Value} {base : Heap}
theorem Fun.okQ {x qual : Str} {st : Stmt} {f : Addr} {fd : FuncData} {N ps : List Str} {k : Nat} {sp : SpQ} (F : Fun K x qual st f fd) (S : FnScope N ps (defScope st)) (len : ∀ vs H Q, sp vs H Q → vs.length = ps.length)
    (hbody : ∀ (cdv : Value) (A : Around) (outer : List Env) (s : Shared) (H : Hp) (vs : List V) (Q : VK), RoomH k (A.deeper (envOfC qual (defScope st) s.heap.objs.size f cdv)) → sp vs H Q →
      ∃ t, PSs (cxQ P w K mg base N qual (defScope st) f cdv A outer s H).nox (defBody st) t ∧ t { nx := fun _ H' => Q .non H', rt := Q } (start N vs) H) : FnQ P w K mg base (k + 1) f fd ps sp := by
  obtain ⟨oc, od, kV, doc, pm, an, cdv, ct, osl, rfl, lk, hcd⟩ := F.ex
  refine ⟨len, fun A outer s H us vs Q hr e0 hb r hsp => ?_⟩
  have hl := len _ _ _ hsp
  have KX : K.In s.heap := e0.mod.kin.keeps fun b o e => (e0.bs b o e).1
  have lim : s.heap.NoLimit := e0.mod.nolimit.keeps fun b o e => (e0.bs b o e).1
  have kinds : ∀ y ∈ ps.zip us, (defScope st).names.lookup y.1 = some .local ∨ ((defScope st).names.lookup y.1 = some .cell ∧ ((cellsFrom (s.heap.objs.size + 1) (defScope st).names []).lookup y.1).isSome = true) := by
    rintro ⟨n, v⟩ hy
    rcases S.par n (List.of_mem_zip hy).1 with q | q
    · exact .inl q
    · exact .inr ⟨q, PySem.W.cellsFrom_some _ _ _ (.inl q)⟩
  refine codeAny_call_function hr.depth (KX _ _ lk) rfl S.co S.gen rfl (PySem.W.codeRec_of KX hcd) (hb _ _ _ _ ?_)
  refine wpAny_newFunctionEnv_cells S.kind kinds fun env he s1 x => ?_
  subst he
  refine ⟨lim.keeps x.toInCall.keep, codeAny_func ?_⟩
  obtain ⟨t, ht, hq⟩ := hbody cdv A outer s H vs Q (hr.deeper _) hsp
  have e0' : Env0 P w K mg base ({ A with handled := none }) outer s H := ⟨e0.frames, e0.mod, e0.bs, e0.bsz, e0.funs, e0.frf, e0.hok, e0.bare⟩
  have I0 : Inv (cxOf CX0 P w K mg base N qual (defScope st) f cdv ({ A with handled := none }) outer s H E0) [] (start N vs) H s1 := inv_start S rfl e0' hl r x
  have I : Inv (cxQ P w K mg base N qual (defScope st) f cdv A outer s H) [] (start N vs) H s1 := by
    obtain ⟨o1, o2, o3, o4, o5, o6, o7, o8, o9, o10, o11, o12, o13, o14, o15, o16, o17, o18⟩ := I0.ok
    exact ⟨⟨o1, o2, o3, o4, o5, o6, o7, o8, fun z => Bool.noConfusion (show false = true from z), Around.frames_deeper e0.frames, o11, o12, o13, o14, o15, o16, o17, o18⟩,
      I0.os, I0.bare, I0.base, I0.loc, I0.cell, I0.free, I0.freeC, I0.pin, I0.hok, I0.len⟩
  refine wpAny_mono (ht.nox.run [] s1 (start N vs) H _ I hq) (fun fl s' hs => ?_) fun e s' hs => hs
  have fin : ∀ {σ' : L2.St} {H' : Hp} {v : V} {u : Value}, Inv (cxQ P w K mg base N qual (defScope st) f cdv A outer s H) [] σ' H' s' → RelV v u → Q v H' → CE outer P w H s Q u s' :=
    fun {σ' H' v u} J rv q => ⟨v, H', J.os, J.bare, J.base, J.hok, rv, q⟩
  cases fl with
  | ret u => obtain ⟨v, σ', H', J, rv, q⟩ := hs; exact fin J rv q
  | next => obtain ⟨σ', H', J, q⟩ := hs; exact fin (v := V.non) (u := Value.none) J rfl q
  | brk => obtain ⟨_, _, _, q⟩ := hs; exact False.elim q
  | cont => obtain ⟨_, _, _, q⟩ := hs; exact False.elim q
end

/-! ### B.__init__(self, ..) where B is an own class that has ValueError's -/
structure BaseC (K : PySem.W.Frag) (B : Addr) : Prop where
  rd : PySem.W.readsIn K B (.type "type") = true
  ga : PySem.W.specialIn K (.ref B) "__getattribute__" = some (some (.builtin "type.__getattribute__"))
  at_ : PySem.W.findCls K (.ref B) (.type "type") "__init__" = some (.val (.builtin "ValueError.__init__"))
section
variable {X : Cx} {e : Expr} {es : List Expr} {ta : TA} {p1 p2 pos : Pos} {x : Str} {B : Addr}
theorem pe_binit {pl : Sem Bool} (T : BaseC X.K B) (hg : Gl X x) (hm : X.mg x = some (.ref B)) (ha : PA X (e :: es) ta) (hdb : (x == ("__debug__" : Str)) = false := by decide)
    (hc : eval (.Call (.Attribute (.Name x p1) "__init__" p2) (e :: es) [] pos) X.env = (do
      let ov ← eval (.Name x p1) X.env
      standAt p2.atName
      let (f, first) ← holding [ov] (getMethod ov "__init__" pl)
      callWith pos f first (backTo pos (starEach (e :: es) X.env)) (backToKw pos (keywordEach [] X.env))) := by rfl)
    (he : starEach (e :: es) X.env = (false, eval e X.env) :: starEach es X.env := by rfl) (hpl : (backTo pos (starEach es X.env)).any (·.1) = false := by rfl) :
    PE X (.Call (.Attribute (.Name x p1) "__init__" p2) (e :: es) [] pos) (tVeI X.K ta) := by
  refine ⟨fun pins s σ H Q I h => ?_⟩
  refine PySem.W.methodCall_KW (ld_glob I hg hm ?_ hdb) hc
  refine PySem.W.method_cls I.kIn T.ga (PySem.W.cls_value I.kIn T.rd T.at_ rfl ?_)
  show wpAny _ _ (callWith pos (Value.builtin "ValueError.__init__") [] (backTo pos (starEach (e :: es) X.env)) []) _ _ _
  refine PyProof.Rows.callWith_method1 (thn (ha.run pos pins _ σ H _ (I.tok _) h) fun us s1 ⟨vs, H1, I1, r1, a, C, ws, ev, hl, T, ea, q⟩ => ?_) he hpl
  subst ev
  cases r1 with
  | @cons _ u0 _ ur ra rw' =>
    obtain rfl : u0 = Value.ref a := ra
    have hlen : ur.length ≤ sizeLine := by
      rw [← Paired.length rw', sizeLine_eq]
      omega
    exact oinit_ok T I1 ea hlen fun s' J => ⟨.non, H1, J, rfl, q⟩
end

/-! ### C(..), C() for an own class with an own __init__ : with a dict behind it, or without -/
def tMkQ (C : Addr) (sp : SpQ) (ta : TA) : L2.St → Hp → XK → Prop := fun σ H Q => ta σ H fun vs H1 => vs.length ≤ 1000 ∧ ∀ a, H1 a = none → sp (.ref a :: vs) (upd H1 a (exo a C none)) (fun v H2 => v = .non ∧
  ((H2 a = some (exo a C none) ∧ Q (.ref C) none (del H2 a)) ∨ ∃ (d : Addr) (fs : List (Str × V)), H2 a = some (exo a C (some d)) ∧ H2 d = some (exd d fs) ∧ H1 d = none ∧ Q (.ref C) (some d) (upd (del H2 a) d (.xd fs))))
section
variable {X : Cx}
theorem mk_end_n {pins : List (Addr × Obj)} {σ : L2.St} {H1 H2 : Hp} {hp hp2 h2 : Heap} {g1 g2 : Array GenState} {d1 d2 : Drawn} {t1 t2 : Nat} {os1 os2 : OsState} {a C : Addr} (I1 : Inv X pins σ H1 ⟨hp, g1, d1, t1, os1⟩)
    (ha : hp.objs.size ≤ a) (k : ∀ b o, hp.get? b = some o → hp2.get? b = some o) (un : Un (frs X.stack) [] (upd H1 a (exo a C none)) H2 hp2 h2) (hok : HOk X.prog X.w H2 h2) (ho : os2 = os1) (hb : AllBare g2) (ea : H2 a = some (exo a C none)) :
    ∃ (t0 : Addr) (G : Heap), Inv X pins σ (del H2 a) ⟨G, g2, d2, t2, os2⟩ ∧ (∀ b o, G.get? b = some o → h2.get? b = some o) ∧ G.get? a = none ∧
      h2.get? a = some ({ cls := .ref C, dict := none, data := .fields #[.ref t0, .none, .none, .none, .bool false, .none] } : Obj) ∧ (del H2 a) a = none := by
  obtain ⟨t0, hoe⟩ := exo_at hok ea
  have hn : H1 a = none := I1.hok.fresh ha
  obtain ⟨G, ga, gb⟩ := restrict h2 fun b => decide (b ≠ a)
  have gk : ∀ b, b ≠ a → G.get? b = h2.get? b := fun b hb => ga b (decide_eq_true hb)
  have ge : G.get? a = none := gb a (by simp)
  have nha : ∀ {b : Addr} {o : Obj}, hp.get? b = some o → b ≠ a := fun {b o} z => Nat.ne_of_lt (Nat.lt_of_lt_of_le (Heap.lt_size z) ha)
  have up : ∀ {b : Addr}, b ≠ a → H1 b = none → upd H1 a (exo a C none) b = none := fun {b} q n => by rw [upd_ne q]; exact n
  have U : Un (frs X.stack) [] H1 (del H2 a) hp G := by
    refine ⟨fun b o z n hf hx => ?_, fun b o z n hf hx => ?_, fun b o z n hx => ?_, fun b o z hx => ?_, fun b xs z => ?_, fun b o v z => ?_, fun b ps z => ?_⟩
    · rw [gk b (nha z)]; exact un.keep b o (k b o z) (up (nha z) n) hf hx
    · rw [gk b (nha z)]; exact un.slot b o (k b o z) (up (nha z) n) hf hx
    · rw [del_ne (nha z)]; exact un.free b o (k b o z) (up (nha z) n) hx
    · rw [gk b (nha z)]; exact un.there b o (k b o z) hx
    · rw [del_ne (ne_of_none z hn)]; exact un.tups b xs (by rw [upd_ne (ne_of_none z hn)]; exact z)
    · rw [del_ne (ne_of_none z hn)]; exact un.frzs b o v (by rw [upd_ne (ne_of_none z hn)]; exact z)
    · rw [del_ne (ne_of_none z hn)]; exact un.tbls b ps (by rw [upd_ne (ne_of_none z hn)]; exact z)
  have hok3 : HOk X.prog X.w (del H2 a) G := fun b o z => by
    have hba : b ≠ a := fun e => by
      rw [e, del_same] at z
      cases z
    rw [del_ne hba] at z
    have noa : ∀ {c : Addr}, H2 c = some (.own b) → c ≠ a := fun {c} hc => at_ne ea hc exo_own
    refine (hok b o z).stay (fun c v hc y => ?_) (fun c hc => by rw [del_ne (noa hc)]; exact hc) (fun c xs hc => by rw [del_ne (at_ne ea hc exo_tup)]; exact hc)
    have hca : c ≠ a := by
      rcases hc with hc | hc
      · rw [hc]; exact hba
      · exact noa hc
    rw [gk c hca]
    exact y
  have J : Inv X pins σ (del H2 a) ⟨G, g2, d2, t2, os2⟩ := I1.call' (ch := []) ho U hok3 hb (fun b z => absurd z (by simp))
  refine ⟨t0, G, J, fun b o z => ?_, ge, hoe, del_same⟩
  by_cases hba : b = a
  · rw [hba, ge] at z; cases z
  · exact (gk b hba).symm.trans z

/-- the call of the class, the arguments at hand -/
theorem run_mkQ {C fI : Addr} {k : Nat} {fd : FuncData} {ps : List Str} {sp : SpQ} {pins : List (Addr × Obj)} {σ : L2.St} {H1 : Hp} {s1 : Shared} {Q : XK} {us : List Value} {vs : List V} (T : OexC X.K C)
    (iC : PySem.W.findIn X.K (.ref C) "__init__" = some (some (.ref fI))) (tI : PySem.W.typeIn X.K (.ref fI) = some (.type "function")) (F1 : FnQ X.prog X.w X.K X.mg X.base k fI fd ps sp) (hr : RoomH (k + 1) X.A) (hb : Binds X.K fd ps [])
    (I1 : Inv X pins σ H1 s1) (r1 : Vals vs us) (hz : vs.length ≤ 1000)
    (q1 : ∀ a, H1 a = none → sp (.ref a :: vs) (upd H1 a (exo a C none)) (fun v H2 => v = .non ∧ ((H2 a = some (exo a C none) ∧ Q (.ref C) none (del H2 a)) ∨ ∃ (d : Addr) (fs : List (Str × V)), H2 a = some (exo a C (some d)) ∧ H2 d = some (exd d fs) ∧ H1 d = none ∧ Q (.ref C) (some d) (upd (del H2 a) d (.xd fs))))) :
    wpAny (model X.prog X.w) X.A (call (.ref C) us) (fun u s' => L2N.MkP X pins σ Q u s' ∧ Six u s') X.xe s1 := by
  obtain ⟨nm, q, N, bs, bm, sn, sub, ab, col, dd, k0, k1, k2, k3, k5, hC, hbm⟩ := T.cls
  obtain ⟨hp, g, dr, tk, os⟩ := s1
  have hsz : hp.objs.size ≤ hp.objs.size + 1 := Nat.le_succ _
  have hn : H1 (hp.objs.size + 1) = none := I1.hok.fresh hsz
  have hq := q1 (hp.objs.size + 1) hn
  have kk : ∀ b o, hp.get? b = some o → ((hp.push (PySem.W.kdv_tup us)).push (PySem.HandSPX.excO C hp.objs.size)).get? b = some o := fun b o e => Heap.get?_push_of_some _ (Heap.get?_push_of_some _ e)
  have hget : ((hp.push (PySem.W.kdv_tup us)).push (PySem.HandSPX.excO C hp.objs.size)).get? (hp.objs.size + 1) = some (PySem.HandSPX.excO C hp.objs.size) := by heap_get
  have I2 : Inv X pins σ (upd H1 (hp.objs.size + 1) (exo (hp.objs.size + 1) C none)) ⟨(hp.push (PySem.W.kdv_tup us)).push (PySem.HandSPX.excO C hp.objs.size), g, dr, tk, os⟩ :=
    I1.laid (t' := tk) (a := hp.objs.size + 1) (o := exo (hp.objs.size + 1) C none) kk hsz (exo_ok hget)
  have r2 : Vals (V.ref (hp.objs.size + 1) :: vs) (Value.ref (hp.objs.size + 1) :: us) := .cons rfl r1
  have hl : (Value.ref (hp.objs.size + 1) :: us).length = ps.length := by
    rw [← r2.length]; exact F1.len _ _ _ hq
  have hus : us.length ≤ sizeLine := by
    rw [← Paired.length r1, sizeLine_eq]
    omega
  have b2 := hb ⟨(hp.push (PySem.W.kdv_tup us)).push (PySem.HandSPX.excO C hp.objs.size), g, dr, tk, os⟩ (Value.ref (hp.objs.size + 1) :: us) I2.kIn (by rw [List.append_nil]; exact hl)
  rw [List.append_nil] at b2
  refine wpAny_call (PySem.HandSPX.call_own F.excBase_ValueError (fun Y => PySem.HandSPX.refsVE_contains Y bm hbm) (I1.kIn _ _ hC) (PySem.W.looks_findIn I1.kIn iC) (fun self => PySem.W.bind_fn I1.kIn self tI) hus
    (codeAny_mono (F1.run _ X.stack _ _ (Value.ref (hp.objs.size + 1) :: us) _ _ (hr.make C us []) (I2.env0.make C us []) b2 r2 hq) fun r s' hq' => ?_))
  cases r with
  | error er => exact False.elim hq'
  | ok fl =>
    cases fl with
    | ret u =>
      obtain ⟨v, H2, os2, bare2, un2, hok2, rv, ev, w⟩ := hq'
      subst ev
      obtain ⟨h2, g2, d2, t2, os'⟩ := s'
      have six : ∀ {dd : Option Addr} {t0 : Addr}, h2.get? (hp.objs.size + 1) = some ({ cls := .ref C, dict := dd, data := .fields #[.ref t0, .none, .none, .none, .bool false, .none] } : Obj) → Six (.ref (hp.objs.size + 1)) ⟨h2, g2, d2, t2, os'⟩ := by
        intro dd t0 hoe a oe vs ea2 hg2 hd2
        cases ea2
        have hg3 : h2.get? (hp.objs.size + 1) = some oe := hg2
        rw [hoe] at hg3
        cases hg3
        cases hd2
        show (4 : Nat) < 6
        decide
      rcases w with ⟨ea, q2⟩ | ⟨d, fs, ea, ed, hd1, q2⟩
      · obtain ⟨t0, G, J, kG, ge, hoe, na⟩ := mk_end_n (d2 := d2) (t2 := t2) I1 hsz kk un2 hok2 os2 bare2 ea
        exact ⟨rv, ⟨hp.objs.size + 1, _, _, ⟨G, g2, d2, t2, os'⟩, _, .ref C, none, rfl, J, kG, ge, hoe, ⟨rfl, rfl, fun vs hv => by cases hv; rfl⟩, rfl, rfl, na, rfl, bare2, raises_own T.exC T.tyC, q2⟩, six hoe⟩
      · obtain ⟨t0, G, J, kG, ge, hoe, na⟩ := mk_end0 (d2 := d2) (t2 := t2) I1 hsz kk un2 hok2 os2 bare2 ea ed hd1
        exact ⟨rv, ⟨hp.objs.size + 1, _, _, ⟨G, g2, d2, t2, os'⟩, _, .ref C, some d, rfl, J, kG, ge, hoe, ⟨rfl, rfl, fun vs hv => by cases hv; rfl⟩, rfl, rfl, na, rfl, bare2, raises_own T.exC T.tyC, q2⟩, six hoe⟩
    | next => exact False.elim hq'
    | brk => exact False.elim hq'
    | cont => exact False.elim hq'

variable {x : Str} {e : Expr} {es : List Expr} {ta : TA} {p pos : Pos} {C fI : Addr} {k : Nat} {fd : FuncData} {ps : List Str} {sp : SpQ}
theorem pmkQ (T : OexC X.K C) (iC : PySem.W.findIn X.K (.ref C) "__init__" = some (some (.ref fI))) (tI : PySem.W.typeIn X.K (.ref fI) = some (.type "function"))
    (F1 : FnQ X.prog X.w X.K X.mg X.base k fI fd ps sp) (hr : RoomH (k + 1) X.A) (hb : Binds X.K fd ps []) (hm : X.mg x = some (.ref C)) (ha : PA X (e :: es) ta) (hg : Gl X x := by rfl)
    (hdb : (x == ("__debug__" : Str)) = false := by decide) (he : starEach (e :: es) X.env = (false, eval e X.env) :: starEach es X.env := by rfl) (hpl : (backTo pos (starEach es X.env)).any (·.1) = false := by rfl) :
    PMk5 X (.Call (.Name x p) (e :: es) [] pos) (tMkQ C sp ta) := by
  intro pins s σ H Q I h
  refine wpAny_Call_Name_kw (ld_glob I hg hm ?_ hdb)
  exact PySem.W.callWith_K (h₀ := X.base) I.ok.mod.kin T.kC (thn (ha.run pos pins s σ H _ I h) fun us s1 ⟨vs, H1, I1, r1, hz, q1⟩ => ⟨I1.kIn, run_mkQ T iC tI F1 hr hb I1 r1 hz q1⟩) he hpl
theorem pmkQ0 (T : OexC X.K C) (iC : PySem.W.findIn X.K (.ref C) "__init__" = some (some (.ref fI))) (tI : PySem.W.typeIn X.K (.ref fI) = some (.type "function"))
    (F1 : FnQ X.prog X.w X.K X.mg X.base k fI fd ps sp) (hr : RoomH (k + 1) X.A) (hb : Binds X.K fd ps []) (hm : X.mg x = some (.ref C)) (hg : Gl X x := by rfl) (hdb : (x == ("__debug__" : Str)) = false := by decide) :
    PMk5 X (.Call (.Name x p) [] [] pos) (tMkQ C sp tNil) := by
  intro pins s σ H Q I h
  refine wpAny_Call_Name_kw (ld_glob I hg hm ?_ hdb)
  exact PySem.W.callWith_K0 I.kIn T.kC (run_mkQ T iC tI F1 hr hb I .nil h.1 h.2)
end
end K8
set_option maxRecDepth 100000
set_option maxHeartbeats 4000000
/-! Ky: exceptions in flight whose contexts are told to some depth; raise .. from None where such a one is handled; a try whose one clause does that. -/
namespace K8
open PySem PySem.Spec PyProof.Rows L2 L2H HotX

/-! ### contexts -/
/-- v is a context chain of at most n records that stand in B, untracked -/
def Cxn : Nat → Heap → Hp → Value → Prop
  | 0, _, _, v => v = .none
  | n + 1, B, H, v => v = .none ∨ ∃ (x : Addr) (o : Obj) (vs : Array Value) (v' : Value), v = .ref x ∧ B.get? x = some o ∧ H x = none ∧ o.data = .fields vs ∧ vs[2]? = some v' ∧ Cxn n B H v'
theorem Cxn.none : ∀ {n : Nat} {B : Heap} {H : Hp}, Cxn n B H .none
  | 0, _, _ => rfl
  | _ + 1, _, _ => .inl rfl
/-- what is kept of such an exception's record -/
def Zk (n : Nat) (B : Heap) (H : Hp) (cls : Value) (d : Option Addr) : Obj → Prop := fun o => o.cls = cls ∧ o.dict = d ∧ ∀ vs : Array Value, o.data = .fields vs → ∃ v, vs[2]? = some v ∧ Cxn n B H v
theorem Zk.steady {n : Nat} {B : Heap} {H : Hp} {cls : Value} {d : Option Addr} : PXN.Steady1 (Zk n B H cls d) := fun o v ⟨h1, h2, h3⟩ => by
  refine ⟨PXN.steady_cls o v h1, PXN.steady_dict o v h2, ?_⟩
  obtain ⟨c, dd, dt, sl⟩ := o
  cases dt with
  | fields vs0 =>
    intro vs e
    obtain ⟨u, hu, hc⟩ := h3 vs0 rfl
    have e2 : vs0.setIfInBounds 1 v = vs := Data.fields.inj e
    refine ⟨u, ?_, hc⟩
    rw [← e2, ← hu]
    simp [Array.getElem?_setIfInBounds]
  | _ => intro vs e; cases e
theorem Zk.zc {n : Nat} {B : Heap} {H : Hp} {cls : Value} {d : Option Addr} {o : Obj} (h : Zk n B H cls d o) : Zc cls d o := ⟨h.1, h.2.1⟩
theorem Zk.of_n {n : Nat} {B : Heap} {H : Hp} {cls : Value} {d : Option Addr} {o : Obj} (h : L2N.Zn cls d o) : Zk n B H cls d o := ⟨h.1, h.2.1, fun vs e => ⟨_, h.2.2 vs e, .none⟩⟩

/-! ### a flight's record may be weakened -/
theorem traced_imp {h B : Heap} {a : Addr} {Z Z' : Obj → Prop} {fl : Value} (z : ∀ o, Z o → Z' o) (x : HandSPX.TracedZ h B a Z fl) : HandSPX.TracedZ h B a Z' fl := by
  obtain ⟨oe, vs, T, oT, ts, he, hz, r⟩ := x
  exact ⟨oe, vs, T, oT, ts, he, z _ hz, r⟩
theorem sky_imp {B h : Heap} {l : List Env} {a L : Addr} {Z Z' : Obj → Prop} (z : ∀ o, Z o → Z' o) (x : Sky B l a Z L h) : Sky B l a Z' L h := by
  rcases x with ⟨h1, h2, h3, oe, vs, h4, h5, h6⟩ | ⟨h1, h2, h3, h4⟩ | ⟨h1, h2, h3, h4⟩
  · exact .inl ⟨h1, h2, h3, oe, vs, h4, z _ h5, h6⟩
  · exact .inr (.inl ⟨h1, h2, h3, traced_imp z h4⟩)
  · exact .inr (.inr ⟨h1, h2, h3, traced_imp z h4⟩)

/-! ### in the air of a body, behind a call -/
def XEk (n : Nat) (X : Cx) (W : WX) (u : Value) (s' : Shared) : Prop :=
  ∃ (a : Addr) (B : Heap) (sI : Shared) (pins : List (Addr × Obj)) (σ : L2.St) (H : Hp) (cls : Value) (d : Option Addr),
    u = .ref a ∧ Inv X pins σ H sI ∧ (∀ b o, sI.heap.get? b = some o → b ∉ frs X.stack → B.get? b = some o) ∧ sI.heap.UpToSlots s'.heap ∧
      Sky B X.stack a (Zk n B H cls d) X.env.locals s'.heap ∧ H a = none ∧ s'.os = sI.os ∧ AllBare s'.gens ∧ W cls d σ H
def TakesK (n : Nat) (X : Cx) (W : WX) : Prop := ∀ u s', XEk n X W u s' → X.xe u s'
theorem TakesK.n {n : Nat} {X : Cx} {W : WX} (t : TakesK n X W) : L2N.Takes X W := fun u s' ⟨a, B, sI, pins, σ, H, cls, d, e, I, nb, up, sky, r⟩ =>
  t u s' ⟨a, B, sI, pins, σ, H, cls, d, e, I, nb, up, sky_imp (fun _ z => Zk.of_n z) sky, r⟩
theorem TakesK.of {n : Nat} {X : Cx} {W : WX} (t : L2.Takes X W) : TakesK n X W := fun u s' ⟨a, B, sI, pins, σ, H, cls, d, e, I, nb, up, sky, r⟩ =>
  t u s' ⟨a, B, sI, pins, σ, H, cls, d, e, I, nb, up, sky_imp (fun _ z => Zk.zc z) sky, r⟩
def CXk (n : Nat) (P : Program) (w : World) (outer : List Env) (H : Hp) (s : Shared) (E : XK) (u : Value) (s' : Shared) : Prop :=
  ∃ (a : Addr) (B : Heap) (H' : Hp) (cls : Value) (d : Option Addr), u = .ref a ∧ HandSPX.FlyingZ B outer a (Zk n B H' cls d) s'.heap ∧ HOk P w H' B ∧ UB (frs outer) H H' s.heap B s'.heap ∧ H' a = none ∧ s'.os = s.os ∧ AllBare s'.gens ∧ E cls d H'
theorem CXk.l {n : Nat} {P : Program} {w : World} {outer : List Env} {H : Hp} {s s' : Shared} {E : XK} {u : Value} (c : CXk n P w outer H s E u s') : L2.CX P w outer H s E u s' := by
  obtain ⟨a, B, H', cls, d, e, ⟨h1, h2, h3, h4⟩, r⟩ := c
  exact ⟨a, B, H', cls, d, e, ⟨h1, h2, h3, traced_imp (fun _ z => z.zc) h4⟩, r⟩
section
variable {n : Nat} {X : Cx} {pins : List (Addr × Obj)} {σ : L2.St} {H : Hp} {sI s s' : Shared} {B : Heap} {W : WX} {E : XK}
theorem XEk.of_call (I : Inv X pins σ H s) (hW : ∀ cls d H', E cls d H' → W cls d σ H') {u : Value} (c : CXk n X.prog X.w X.stack H s E u s') : XEk n X W u s' := by
  obtain ⟨a, B, H', cls, d, rfl, fl, hok, ub, na, os, ag, hE⟩ := c
  have st : B.StaysIn s'.heap := fl.1
  obtain ⟨G, g1, g2⟩ := restrict s'.heap fun b => (B.get? b).isSome || decide (b ∈ frs X.stack)
  have gB : ∀ b o, B.get? b = some o → G.get? b = some o := fun b o e => (g1 b (by simp [e])).trans (st b o e)
  have gF : ∀ b, b ∈ frs X.stack → G.get? b = s'.heap.get? b := fun b hb => g1 b (by simp [hb])
  have og : ∀ b o, G.get? b = some o → s'.heap.get? b = some o ∧ ((B.get? b).isSome = true ∨ b ∈ frs X.stack) := fun b o e => by
    by_cases q : ((B.get? b).isSome || decide (b ∈ frs X.stack)) = true
    · rw [g1 b q] at e
      exact ⟨e, by simpa [Bool.or_eq_true] using q⟩
    · rw [g2 b (by simpa using q)] at e; cases e
  have J : Inv X pins σ H' { s with heap := G, gens := s'.gens, drawn := s'.drawn, toks := s'.toks } := by
    refine I.call (ch := []) ⟨fun b o e n hb _ => gB b o (ub.keep b o e n hb), fun b o e n hb _ => ?_, fun b o e n _ => ub.free b o e n, fun b o e _ => ?_, ub.tups, ub.frzs, ub.tbls⟩ (hok.kept gB) ag (fun _ z => nomatch z)
    · obtain ⟨sl, q⟩ := ub.slot b o e hb
      exact ⟨sl, (gF b hb).trans q⟩
    · by_cases hb : b ∈ frs X.stack
      · obtain ⟨sl, q⟩ := ub.slot b o e hb
        exact ⟨_, (gF b hb).trans q⟩
      · obtain ⟨o', q⟩ := ub.there b o e hb
        exact ⟨o', gB b o' q⟩
  refine ⟨a, B, _, pins, σ, H', cls, d, rfl, J, fun b o e hb => ?_, Heap.UpToSlots.of_keeps fun b o e => (og b o e).1, .inr (.inl fl), na, os, ag, hW _ _ _ hE⟩
  obtain ⟨e', h | h⟩ := og b o e
  · obtain ⟨o', q⟩ := Option.isSome_iff_exists.mp h
    have z := (st b o' q).symm.trans e'
    cases z
    exact q
  · exact absurd h hb
theorem XEk.new {a : Addr} {oe : Obj} {vs : Array Value} {cls : Value} {d : Option Addr} (I : Inv X pins σ H sI) (k : ∀ b o, sI.heap.get? b = some o → s'.heap.get? b = some o) (hne : sI.heap.get? a = none) (he : s'.heap.get? a = some oe)
    (hz : Zk n (PySem.W.hideAll sI.heap (frs X.stack)) H cls d oe) (hd : oe.data = .fields vs) (h1 : vs[1]? = some .none) (na : H a = none) (os : s'.os = sI.os) (ag : AllBare s'.gens) (w : W cls d σ H) : XEk n X W (.ref a) s' := by
  refine ⟨a, PySem.W.hideAll sI.heap (frs X.stack), sI, pins, σ, H, cls, d, rfl, I, fun b o e hb => PySem.W.hideAll_get _ e hb, Heap.UpToSlots.of_keeps k,
    .inl ⟨fun b o e => k b o (PySem.W.of_hideAll _ e), ?_, ?_, oe, vs, he, hz, hd, h1⟩, na, os, ag, w⟩
  · cases q : (PySem.W.hideAll sI.heap (frs X.stack)).get? a with
    | none => rfl
    | some o =>
      have z := (PySem.W.of_hideAll _ q).symm.trans hne
      cases z
  · exact Heap.FunFrames.of_keeps (fun b o e _ => ⟨o, k b o e, rfl⟩) (funFrames_none I.stack fun b hb => PySem.W.hideAll_none _ hb)
theorem XEk.leave (hs : X.stack = X.env :: X.outer) (hf : X.env.frame = some X.env.locals) (hex : X.ex = []) {E₁ : Value → Shared → Prop} (hW : ∀ cls d σ H, W cls d σ H → E cls d H) {u : Value} (x : XEk n X W u s') :
    wpAny (model X.prog X.w) X.A (leaving X.env u) (fun _ s'' => CXk n X.prog X.w X.outer X.H_0 X.s_0 E u s'') E₁ s' := by
  obtain ⟨a, B, sI, pins, σ, H, cls, d, rfl, I, nb, up, sky, na, os, ag, w⟩ := x
  have hfr : X.A.frames = some (X.env :: X.outer) := by rw [I.ok.frames, hs]
  have noex : ∀ b, b ∉ X.ex := fun b hb => by rw [hex] at hb; cases hb
  have nst : ∀ b o, X.s_0.heap.get? b = some o → b ∉ X.fs → b ∉ frs X.stack := fun b o e hb hm => by
    rcases List.mem_cons.mp (I.stkSub b hm) with z | z
    · exact absurd (Nat.lt_of_lt_of_le (z ▸ Heap.lt_size e) I.ok.above) (Nat.lt_irrefl _)
    · exact hb z
  have fin : ∀ h', HandSPX.FlyingZ B X.outer a (Zk n B H cls d) h' → s'.heap.UpToSlots h' → CXk n X.prog X.w X.outer X.H_0 X.s_0 E (.ref a) { s' with heap := h' } := fun h' fl up' => by
    refine ⟨a, B, H, cls, d, rfl, fl, I.inGround nb, ?_, na, os.trans I.os, ag, hW _ _ _ _ w⟩
    refine ⟨fun b o e n hb => nb b o (I.base.keep b o e n hb (noex b)) (nst b o e hb), fun b o e hb => ?_, fun b o e n => I.base.free b o e n (noex b), fun b o e hb => ?_, I.base.tups, I.base.frzs, I.base.tbls⟩
    · obtain ⟨_, o₀, e₀, hnf⟩ := I.ok.funs.mem hb
      have z := e.symm.trans e₀
      cases z
      obtain ⟨sl, e1⟩ := I.base.slot b o e (I.ok.frf b hb) hb (noex b)
      obtain ⟨sl2, e2⟩ := up b _ e1 hnf
      obtain ⟨sl3, e3⟩ := up' b _ e2 hnf
      exact ⟨sl3, e3⟩
    · obtain ⟨o', e1⟩ := I.base.there b o e (noex b)
      exact ⟨o', nb b o' e1 (nst b o e hb)⟩
  rw [hs] at sky
  rcases sky with ⟨hB, hn, hl, oe, vs, he, hz, hd, h1⟩ | fl | hd
  · exact PXN.leaving_firstZ Zk.steady hfr hl hf he hB hn hd h1 hz fin
  · exact PXN.leaves_onZ Zk.steady hfr hf fl fin
  · exact HandSPX.leaves_heldZ hf hd fin
theorem takesK_of (hs : X.stack = X.env :: X.outer) (hf : X.env.frame = some X.env.locals) (hex : X.ex = []) {E₁ : Value → Shared → Prop}
    (hx : X.xe = fun e s' => wpAny (model X.prog X.w) X.A (leaving X.env e) (fun _ s'' => CXk n X.prog X.w X.outer X.H_0 X.s_0 E e s'') E₁ s') : TakesK n X (fun cls d _ H => E cls d H) := fun u s' x => by
  rw [hx]
  exact XEk.leave (W := fun cls d _ H => E cls d H) (E := E) hs hf hex (fun _ _ _ _ h => h) x
theorem passK (tk : TakesK n X W) (σ : L2.St) : PassesAt (CXk n X.prog X.w) X σ (WE W σ) := fun _ _ _ e s' I c => tk e s' (XEk.of_call I (fun _ _ _ h => h) c)
end

/-! ### raise .. from None where x1, with at most one record behind it, is handled -/
/-- the handled record, its chain, in a state -/
def HotAt2 (A : Around) (x1 : Addr) (h : Heap) : Prop := A.handled = some (.ref x1) ∧ ∃ (o : Obj) (vs : Array Value), h.get? x1 = some o ∧ o.data = .fields vs ∧
  (vs[2]? = some .none ∨ ∃ (x0 : Addr) (o0 : Obj) (ws : Array Value), vs[2]? = some (.ref x0) ∧ h.get? x0 = some o0 ∧ o0.data = .fields ws ∧ ws[2]? = some .none)
theorem plain_unchain : plainId "proto.unchain" = true := by decide +kernel
section
variable {prog : Program} {w : World} {A : Around} {E : Value → Shared → Prop} {s : Shared}
theorem unchained2 {x1 x0 a : Addr} {o1 o0 : Obj} {vs ws : Array Value} {Q : Value → Shared → Prop} (h1 : s.heap.get? x1 = some o1) (d1 : o1.data = .fields vs) (c1 : vs[2]? = some (.ref x0)) (h0 : s.heap.get? x0 = some o0)
    (d0 : o0.data = .fields ws) (c0 : ws[2]? = some .none) (na : x0 ≠ a) (q : Q .none s) :
    wpAny (model prog w) A (holding [Value.ref a] (runValue (.builtin "proto.unchain" ⟨[.ref a, .ref x1, .ref x1, .bool false], []⟩))) Q E s := by
  have n01 : x0 ≠ x1 := fun z => by
    rw [z, h1] at h0; cases h0
    rw [d1] at d0; cases d0
    rw [c1] at c0; cases c0
  have e1 : (Value.ref x0 == Value.none) = false := by simp
  have e2 : (Value.ref x0 == Value.ref a) = false := by simp [na]
  have e3 : (Value.ref x0 == Value.ref x1) = false := by simp [n01]
  refine wpAny_holding (wpAny_runValue (codeAny_builtin entry_unchain ?_))
  show wpAny _ _ (field (.ref x1) 2 >>= _) _ _ s
  refine wpAny_bind (wpAny_field h1 d1 c1 ?_)
  simp only [e1, e2, e3, Bool.false_eq_true, if_false, Bool.not_false]
  refine wpAny_bind (wpAny_pure ?_)
  refine wpAny_pure ⟨plainId_quiet plain_unchain _, codeAny_builtin entry_unchain ?_⟩
  show wpAny _ _ (field (.ref x0) 2 >>= _) _ _ s
  refine wpAny_bind (wpAny_field h0 d0 c0 ?_)
  rw [if_pos (show (Value.none == Value.none) = true from rfl)]
  first
  | exact wpAny_bind (wpAny_pure (wpAny_pure q))
  | exact wpAny_pure q
theorem raiseNew_hot2 {α : Type} {a x1 : Addr} {oe : Obj} {vs : Array Value} {Q : α → Shared → Prop} (hot : HotAt2 A x1 s.heap) (hne : x1 ≠ a) (hold : ∀ (o1 : Obj) (v1 : Array Value) x0, s.heap.get? x1 = some o1 → o1.data = .fields v1 → v1[2]? = some (.ref x0) → x0 ≠ a)
    (ha : s.heap.get? a = some oe) (da : oe.data = .fields vs) (hi : 2 < vs.size)
    (hE : E (.ref a) { s with heap := s.heap.update a (Obj.mapFields (·.setIfInBounds 2 (.ref x1))) }) : wpAny (model prog w) A (raiseNew (.ref a) : Sem α) Q E s := by
  obtain ⟨hh, o1, vs1, h1, d1, c1⟩ := hot
  have un : ∀ {R : Value → Shared → Prop}, R .none s → wpAny (model prog w) A (holding [Value.ref a] (runValue (.builtin "proto.unchain" ⟨[.ref a, .ref x1, .ref x1, .bool false], []⟩))) R E s := fun {R} q => by
    rcases c1 with c1 | ⟨x0, o0, ws, c1, h0, d0, c0⟩
    · exact unchained h1 d1 c1 q
    · exact unchained2 h1 d1 c1 h0 d0 c0 (hold _ _ _ h1 d1 c1) q
  unfold raiseNew
  refine wpAny_bind (wpAny_handled ?_)
  rw [hh]
  have hb : (Value.ref x1 != Value.ref a) = true := ref_bne hne
  show wpAny _ _ (if (Value.ref x1 != Value.ref a) = true then _ else _) _ _ _
  rw [if_pos hb]
  first
  | exact wpAny_bind (un (wpAny_bind (chained ha da hi (wpAny_throw hE))))
  | exact wpAny_bind (wpAny_bind (un (chained ha da hi (wpAny_throw hE))))
end
end K8
set_option maxRecDepth 100000
set_option maxHeartbeats 1000000
namespace K8
open PySem PySem.Spec PyProof.Rows L2 L2H HotX

section
variable {prog : Program} {w : World} {A : Around} {E : Value → Shared → Prop} {s : Shared}
/-- the parts of a raise, on an instance -/
theorem not_type {a : Addr} {oe : Obj} {vs : Array Value} {Q : Bool → Shared → Prop} (ha : s.heap.get? a = some oe) (hd : oe.data = .fields vs) (q : Q false s) : wpAny (model prog w) A (isType (.ref a)) Q E s := by
  unfold isType loadHead
  refine wpAny_bind (wpAny_loadPart ha ?_)
  rw [hd]
  exact wpAny_pure q
theorem exc_from {a : Addr} {oe : Obj} {vs : Array Value} {m : String} {Q : Value → Shared → Prop} (ha : s.heap.get? a = some oe) (hd : oe.data = .fields vs) (L : PySem.W.Looks (model prog w) s.heap (isSubtype oe.cls (.type "BaseException")) true) (q : Q (.ref a) s) :
    wpAny (model prog w) A (excFromValue (.ref a) m) Q E s := by
  have LI : PySem.W.Looks (model prog w) s.heap (isInstance (.ref a) (.type "BaseException")) true := PySem.W.Looks.andThen (fun A Q E s k q => wpAny_typeOf_ref (k _ _ ha) q) L
  unfold excFromValue isExcClass
  refine wpAny_bind (wpAny_bind (not_type ha hd ?_))
  simp only [Bool.false_eq_true, if_false]
  refine wpAny_pure ?_
  simp only [Bool.false_eq_true, if_false]
  refine wpAny_bind (LI.here ?_)
  simp only [if_true]
  exact wpAny_pure q
theorem raised_inst {a : Addr} {oe : Obj} {Q : Value → Shared → Prop} (ha : s.heap.get? a = some oe) (L : PySem.W.Looks (model prog w) s.heap (typeOf oe.cls) (.type "type")) (q : Q (.ref a) s) : wpAny (model prog w) A (raisedInstance (.ref a)) Q E s := by
  unfold raisedInstance
  refine wpAny_bind (wpAny_typeOf_ref ha (wpAny_bind (L.here ?_)))
  rw [if_pos (beq_self_eq_true _)]
  exact wpAny_pure q
theorem flight_none {a : Addr} {oe : Obj} {vs : Array Value} {Q : Unit → Shared → Prop} (ha : s.heap.get? a = some oe) (hd : oe.data = .fields vs) (h1 : vs[1]? = some .none) (q : Q () s) : wpAny (model prog w) A (setFlight (.ref a) none) Q E s := by
  unfold setFlight
  refine wpAny_bind (wpAny_field ha hd h1 ?_)
  rw [if_neg (by decide)]
  exact wpAny_pure q
/-- raise x from None -/
theorem raise_fn2 {env : Env} {x c : Sem Value} {Q : Flow → Shared → Prop} {x1 : Addr} (hcs : ∀ (s : Shared) (Q' : Value → Shared → Prop), Q' .none s → wpAny (model prog w) A c Q' E s)
    (h : wpAny (model prog w) A x (fun v s₁ => ∃ a oe vs, v = .ref a ∧ s₁.heap.get? a = some oe ∧ oe.data = .fields vs ∧ vs[1]? = some .none ∧ 4 < vs.size ∧ x1 ≠ a ∧ HotAt2 A x1 s₁.heap ∧
      (∀ (o1 : Obj) (v1 : Array Value) (x0 : Addr), s₁.heap.get? x1 = some o1 → o1.data = .fields v1 → v1[2]? = some (.ref x0) → x0 ≠ a ∧ ∃ o0, s₁.heap.get? x0 = some o0) ∧
      PySem.W.Looks (model prog w) s₁.heap (isSubtype oe.cls (.type "BaseException")) true ∧ PySem.W.Looks (model prog w) (noneFrom s₁.heap a) (typeOf oe.cls) (.type "type") ∧
      E (.ref a) { s₁ with heap := (noneFrom s₁.heap a).update a (Obj.mapFields (·.setIfInBounds 2 (.ref x1))) }) E s) :
    wpAny (model prog w) A (raiseStmt env (some x) (some c)) Q E s := by
  unfold raiseStmt
  dsimp only
  refine wpAny_bind (wpAny_mono h (fun v s₁ h₁ => ?_) fun _ _ x => x)
  obtain ⟨a, oe, vs, rfl, ha, hd, h1, hi, hne, hot, hold, L1, L3, hE⟩ := h₁
  have hd3 := Obj.data_mapFields hd (·.setIfInBounds 3 .none)
  have ha3 := Heap.get?_update_self (Obj.mapFields (·.setIfInBounds 3 .none)) ha (Obj.isFreed_of_fields hd3)
  obtain ⟨ha4, hd4⟩ := noneFrom_at ha hd
  have s3 : 3 < vs.size := by omega
  have s4 : 4 < (vs.setIfInBounds 3 Value.none).size := by rw [set_size]; exact hi
  have s2 : 2 < ((vs.setIfInBounds 3 Value.none).setIfInBounds 4 (Value.bool true)).size := by rw [set_size, set_size]; omega
  have h14 : ((vs.setIfInBounds 3 Value.none).setIfInBounds 4 (Value.bool true))[1]? = some Value.none := set_other (by decide) (set_other (by decide) h1)
  have hcls4 : ((oe.mapFields (·.setIfInBounds 3 .none)).mapFields (·.setIfInBounds 4 (.bool true))).cls = oe.cls := by rw [Obj.cls_mapFields, Obj.cls_mapFields]
  have oth : ∀ {b : Addr}, b ≠ a → (noneFrom s₁.heap a).get? b = s₁.heap.get? b := fun {b} hb => noneFrom_other (Ne.symm hb)
  have hot4 : HotAt2 A x1 (noneFrom s₁.heap a) := by
    obtain ⟨q1, o, vs', q2, q3, q4⟩ := hot
    refine ⟨q1, o, vs', (oth hne).trans q2, q3, ?_⟩
    rcases q4 with q4 | ⟨x0, o0, ws, c1, c2, c3, c4⟩
    · exact .inl q4
    · exact .inr ⟨x0, o0, ws, c1, (oth (hold _ _ _ q2 q3 c1).1).trans c2, c3, c4⟩
  have hold4 : ∀ (o1 : Obj) (v1 : Array Value) (x0 : Addr), (noneFrom s₁.heap a).get? x1 = some o1 → o1.data = .fields v1 → v1[2]? = some (.ref x0) → x0 ≠ a := fun o1 v1 x0 e1 e2 e3 => (hold o1 v1 x0 ((oth hne).symm.trans e1) e2 e3).1
  have rest : wpAny (model prog w) A (do
      let b ← isType (.ref a)
      if b = true then do
        let e ← holding [.ref a] (raisedFor (.ref a) (.ref a))
        setFlight e none
        raiseNew e
      else do
        let e ← raisedInstance (.ref a)
        setFlight e none
        raiseNew e : Sem Flow) Q E { s₁ with heap := noneFrom s₁.heap a } := by
    refine wpAny_bind (not_type ha4 hd4 ?_)
    simp only [Bool.false_eq_true, if_false]
    refine wpAny_bind (raised_inst ha4 (by rw [hcls4]; exact L3) (wpAny_bind (flight_none ha4 hd4 h14 ?_)))
    exact raiseNew_hot2 hot4 hne hold4 ha4 hd4 s2 hE
  refine wpAny_bind (wpAny_holding (hcs _ _ (wpAny_bind (wpAny_pure ?_))))
  dsimp only
  refine wpAny_bind (wpAny_holding (exc_from ha hd L1 ?_))
  first
  | rw [if_pos (show (Value.none == Value.none) = true from rfl)]
  | simp only [beq_self_eq_true, if_true]
  first
  | refine wpAny_bind (wpAny_pure (wpAny_bind (wpAny_setField ha hd s3 (wpAny_bind (wpAny_setField ha3 hd3 s4 ?_)))))
  | refine wpAny_bind (wpAny_pure (wpAny_bind (wpAny_bind (wpAny_setField ha hd s3 (wpAny_bind (wpAny_setField ha3 hd3 s4 ?_))))))
  | refine wpAny_bind (wpAny_bind (wpAny_pure (wpAny_bind (wpAny_setField ha hd s3 (wpAny_setField ha3 hd3 s4 ?_)))))
  first
  | exact rest
  | (dsimp only; exact rest)
  | (refine wpAny_pure ?_; exact rest)
end

/-! ### the clause's test -/
/-- the clause's expression names what m tells, in a suite -/
def TestX (X : Cx) (ty : Expr) (m : Value → Option Bool) : Prop :=
  ∀ (a : Addr) (pn pins : List (Addr × Obj)) (σ : L2.St) (H : Hp) (s : Shared) (Q : Value → Shared → Prop) (E : Value → Shared → Prop), Inv (suiteX X a pn) pins σ H s →
    (∀ (c : Value) (h' : Heap) (t' : Nat), (∀ b o, s.heap.get? b = some o → h'.get? b = some o) →
      (∀ (cls : Value) (b : Bool), m cls = some b → PySem.W.Looks (model X.prog X.w) h' (typeOf (.ref a)) cls → PySem.W.Looks (model X.prog X.w) h' (excMatches (.ref a) c) b) → Q c { s with heap := h', toks := t' }) →
    wpAny (model X.prog X.w) (X.A.mark (some (.ref a))) (eval ty X.env) Q E s
theorem testX_name {X : Cx} {x : Str} {np : Pos} {c : Value} (hg : Gl X x) (hm : X.mg x = some c) (hdb : (x == ("__debug__" : Str)) = false := by decide) : TestX X (.Name x np) (fun cls => PySem.W.exmOne X.K cls c) :=
  fun a pn pins σ H s Q E I k => ld_glob (X := suiteX X a pn) I hg hm (k c s.heap s.toks (fun _ _ z => z) fun cls b e L => PySem.W.exm_one I.kIn L e) hdb
theorem testX_two {X : Cx} {x y : Str} {p1 p2 pos : Pos} {kk} {c d : Value} (hg : Gl X x) (hm : X.mg x = some c) (hg' : Gl X y) (hm' : X.mg y = some d) (hdb : (x == ("__debug__" : Str)) = false := by decide) (hdb' : (y == ("__debug__" : Str)) = false := by decide)
    (hs : starEach [.Name x p1, .Name y p2] X.env = [(false, eval (.Name x p1) X.env), (false, eval (.Name y p2) X.env)] := by rfl) : TestX X (.Tuple [.Name x p1, .Name y p2] kk pos) (fun cls => PySem.W.exmAny X.K cls [c, d]) := by
  intro a pn pins σ H s Q E I k
  refine wpAny_Tuple_spliced ?_
  rw [hs]
  show wpAny _ _ (spliced [(false, eval (.Name x p1) X.env), (false, eval (.Name y p2) X.env)]) _ _ s
  refine Calls.spliced_cons (ld_glob (X := suiteX X a pn) I hg hm ?_ hdb)
  refine Calls.spliced_cons (ld_glob (X := suiteX X a pn) I hg' hm' ?_ hdb')
  refine Calls.spliced_nil ⟨by rw [sizeLine_eq]; show 2 ≤ 16777216; decide, ?_⟩
  refine k _ _ s.toks (fun b o z => Heap.get?_push_of_some _ z) fun cls b e L => ?_
  exact PySem.W.exm_tup2 (I.kIn.keeps fun b o z => Heap.get?_push_of_some _ z) L (Heap.get?_push_size _ rfl) e

/-! ### try: body, except ty: raise e from None -/
section
variable {X : Cx} {ty e : Expr} {m : Value → Option Bool} {body : List Stmt} {cpos rpos pos pos' : Pos} {j} {tb : WX → TS} {te : L2.St → Hp → XK → Prop} {Wout : WX} {n : Nat}
theorem flying_kept {B h h' : Heap} {l : List Env} {a : Addr} {Z : Obj → Prop} (k : ∀ b o, h.get? b = some o → h'.get? b = some o) (x : HandSPX.FlyingZ B l a Z h) : HandSPX.FlyingZ B l a Z h' := by
  obtain ⟨h1, h2, h3, oe, vs, T, oT, ts, e1, e2, e3, e4, e5, e6, e7, e8, e9⟩ := x
  exact ⟨fun b o z => k b o (h1 b o z), h2, Heap.FunFrames.of_keeps (fun b o z _ => ⟨o, k b o z, rfl⟩) h3, oe, vs, T, oT, ts, k _ _ e1, e2, e3, e4, e5, e6, k _ _ e7, e8, e9⟩
/-- records are no frames -/
theorem not_frame {B h : Heap} {l : List Env} {a : Addr} {o : Obj} {vs : Array Value} (ff : h.FunFrames B l) (e : h.get? a = some o) (d : o.data = .fields vs) : a ∉ frs l := fun hm => by
  obtain ⟨_, o', e', hnf⟩ := ff.mem hm
  have z := e.symm.trans e'
  cases z
  exact hnf _ d
theorem cxn_one {n : Nat} {B : Heap} {H : Hp} {v : Value} (hn : n ≤ 1) (h : Cxn n B H v) : v = .none ∨ n = 1 ∧ ∃ (x0 : Addr) (o0 : Obj) (ws : Array Value), v = .ref x0 ∧ B.get? x0 = some o0 ∧ H x0 = none ∧ o0.data = .fields ws ∧ ws[2]? = some .none := by
  cases n with
  | zero => exact .inl h
  | succ k =>
    cases k with
    | zero =>
      rcases h with h | ⟨x0, o0, ws, v', e1, e2, e3, e4, e5, e6⟩
      · exact .inl h
      · have e6' : v' = .none := e6
        subst e6'
        exact .inr ⟨rfl, x0, o0, ws, e1, e2, e3, e4, e5⟩
    | succ k => omega
theorem ps_try_re (hn : n ≤ 1) (hs : X.stack = X.env :: X.outer) (hf : X.env.frame = some X.env.locals) (ht : TestX X ty m) (hpa : ∀ hd : Option Value, PassesOwnAt (model X.prog X.w) (X.A.mark hd) X.A X.env X.xe) (tk : TakesK (n + 1) X Wout)
    (hb : ∀ (W : WX) (pn : List (Addr × Obj)) (xe : Value → Shared → Prop), TakesK n (X.tr pn xe) W → PassesOwn (model X.prog X.w) X.A X.env xe → PSs (X.tr pn xe) body (tb W))
    (he : ∀ (a : Addr) (pn : List (Addr × Obj)), PMk5 (suiteX X a pn) e te) :
    PS X (.Try body [.ExceptHandler (some ty) none [.Raise (some e) (some (.Constant .none j cpos)) rpos] pos'] [] [] pos) (fun D σ H => tb (fun cls _ σ' H' => m cls = some true ∧ te σ' H' fun c2 d2 H2 => Wout c2 d2 σ' H2) D σ H) := by
  refine ⟨fun pins s σ H D I h => ?_⟩
  have ok := I.ok
  have hfr : X.A.frames = some (X.env :: X.outer) := by rw [ok.frames, hs]
  refine wpAny_Try_except ?_
  refine wpAny_mono ((hb (fun cls _ σ' H' => m cls = some true ∧ te σ' H' fun c2 d2 H2 => Wout c2 d2 σ' H2) (X.pn ++ pins) (fun u s₁ => wpAny (model X.prog X.w) X.A (noteFrame u X.env) (fun _ s₂ => wpAny (model X.prog X.w) X.A (setFlight u none) (fun _ s₃ =>
    wpAny (model X.prog X.w) X.A (handleBy u X.env [.ExceptHandler (some ty) none [.Raise (some e) (some (.Constant .none j cpos)) rpos] pos']) (SP X pins D) X.xe s₃) X.xe s₂) X.xe s₁) (fun u s' xx => ?_) PassesOwn.looking).run [] s σ H D (I.toTry _) h) (fun f s1 hsp => ?_) (fun u s1 z => z)
  · obtain ⟨a, B, sI, pins', σ', H', cls, d, rfl, J', nb, up, sky, na, os, ag, hm, hte⟩ := xx
    have J : Inv X pins σ' H' sI := J'.ofTry ok
    rw [show (X.tr (X.pn ++ pins) _).stack = X.env :: X.outer from hs] at sky
    show wpAny (model X.prog X.w) X.A (noteFrame (.ref a) X.env) _ _ _
    refine L2N.Sky.land Zk.steady hfr hf sky fun h3 fl3 up3 => ?_
    have J3 : Inv X pins σ' H' { s' with heap := h3 } := J.landed nb fl3.1 (up.trans up3) os ag
    obtain ⟨oe3, vs3, he3, hz3, hd3⟩ := fl3.there
    have offF : ∀ {h : Heap} {b : Addr} {o : Obj} {vs : Array Value}, h.FunFrames B (X.env :: X.outer) → h.get? b = some o → o.data = .fields vs → b ≠ X.env.locals ∧ b ∉ X.fs := fun {h b o vs} ff q dq => by
      have nfr := not_frame ff q dq
      refine ⟨fun z => nfr (List.mem_filterMap.mpr ⟨X.env, List.mem_cons_self, by rw [hf, z]⟩), fun hm => ?_⟩
      obtain ⟨ev, hv, q2⟩ := List.mem_filterMap.mp hm
      exact nfr (List.mem_filterMap.mpr ⟨ev, List.mem_cons_of_mem _ hv, q2⟩)
    obtain ⟨nL, nF⟩ := offF fl3.2.2.1 he3 hd3
    have S3 : Inv (suiteX X a ((a, oe3) :: (X.pn ++ pins))) [] σ' H' { s' with heap := h3 } := suiteX_of (J3.suite he3 hd3 na nL nF)
    refine wpAny_handleBy_cons (codeAny_handlers_test ?_) (by intro q; cases q)
    refine ht a _ [] σ' H' _ _ _ S3 fun c h4 t4 k4 hmatch => ?_
    have LT : PySem.W.Looks (model X.prog X.w) h4 (typeOf (.ref a)) cls := fun A Q E s k q => wpAny_typeOf_ref (k _ _ (k4 _ _ he3)) (by rw [hz3.1]; exact q)
    refine (hmatch cls true hm LT).here ?_
    refine codeAny_handlers_suite ?_
    have fl4 := flying_kept k4 fl3
    refine HandSPX.lands_againZ (s := { s' with heap := h4, toks := t4 }) fl4 fun h5 fl5 up5 => ?_
    have up35 : h3.UpToSlots h5 := (Heap.UpToSlots.of_keeps k4).trans up5
    have J5 : Inv X pins σ' H' { s' with heap := h5, toks := t4 } := J.landed (s' := { s' with heap := h5, toks := t4 }) nb fl5.1 ((up.trans up3).trans up35) os ag
    obtain ⟨oe5, vs5, he5, hz5, hd5⟩ := fl5.there
    obtain ⟨v5, hv5, hc5⟩ := hz5.2.2 vs5 hd5
    have S5 : Inv (suiteX X a ((a, oe5) :: (X.pn ++ pins))) [] σ' H' { s' with heap := h5, toks := t4 } := suiteX_of (J5.suite he5 hd5 na nL nF)
    -- the chain's record, pinned
    obtain ⟨pl, Sp, hchain⟩ : ∃ pl : List (Addr × Obj), Inv (suiteX X a ((a, oe5) :: (X.pn ++ pins))) pl σ' H' { s' with heap := h5, toks := t4 } ∧
        (v5 = .none ∨ n = 1 ∧ ∃ (x0 : Addr) (o0 : Obj) (ws : Array Value), v5 = .ref x0 ∧ (x0, o0) ∈ pl ∧ o0.data = .fields ws ∧ ws[2]? = some .none ∧ x0 ∉ frs X.stack) := by
      rcases cxn_one hn hc5 with hc5 | ⟨n1, x0, o0, ws, e1, e2, e3, e4, e5⟩
      · exact ⟨[], S5, .inl hc5⟩
      · have g0 : h5.get? x0 = some o0 := fl5.1 _ _ e2
        obtain ⟨m1, m2⟩ := offF fl5.2.2.1 g0 e4
        have nfr : x0 ∉ frs X.stack := by rw [hs]; exact not_frame fl5.2.2.1 g0 e4
        refine ⟨[(x0, o0)], S5.pins_of fun p hp => ?_, .inr ⟨n1, x0, o0, ws, e1, List.mem_singleton.mpr rfl, e4, e5, nfr⟩⟩
        have ep : p = (x0, o0) := List.mem_singleton.mp hp
        subst ep
        exact ⟨g0, e3, m1, m2, fun v z => by rw [e4] at z; cases z⟩
    have nfa : a ∉ frs X.stack := by rw [hs]; exact not_frame fl5.2.2.1 he5 hd5
    have body5 : wpAny (model X.prog X.w) (X.A.mark (some (.ref a))) (execs [.Raise (some e) (some (.Constant .none j cpos)) rpos] X.env) (fun _ _ => False) X.xe { s' with heap := h5, toks := t4 } := by
      refine wpAny_execs_cons ?_
      show wpAny _ _ (do standAt rpos; raiseStmt X.env (some (do let v ← eval e X.env; standAt rpos; pure v)) (some (do let v ← eval (.Constant .none j cpos) X.env; standAt rpos; pure v))) _ _ _
      refine wpAny_bind (wpAny_standAt (raise_fn2 (x1 := a) (fun s2 Q2 q2 => wpAny_bind (Constant_none (wpAny_bind (wpAny_standAt (wpAny_pure q2))))) (wpAny_bind (wpAny_mono (he a _ pl _ σ' H' _ Sp hte) (fun u s6 hu => wpAny_bind (wpAny_standAt (wpAny_pure ?_))) fun _ _ z => z))))
      obtain ⟨⟨b, ob, ws, sI6, H6, c2, d2, rfl, K6, k6, hne6, hb6, hz6, hd6, h16, nb6, os6, ag6, rs6, q6⟩, hsix⟩ := hu
      have hi : 4 < ws.size := hsix b ob ws rfl hb6 hd6
      have other : ∀ {y : Addr}, y ≠ b → (noneFrom s6.heap b).get? y = s6.heap.get? y := fun {y} hy => noneFrom_other (Ne.symm hy)
      have kn : ∀ y u, sI6.heap.get? y = some u → y ≠ b := fun y u z q => by rw [q, hne6] at z; cases z
      have k6n : ∀ y u, sI6.heap.get? y = some u → (noneFrom s6.heap b).get? y = some u := fun y u z => (other (kn y u z)).trans (k6 y u z)
      obtain ⟨L1, _⟩ := rs6 (model X.prog X.w) s6.heap (K6.kIn.keeps k6)
      obtain ⟨_, L2'⟩ := rs6 (model X.prog X.w) (noneFrom s6.heap b) (K6.kIn.keeps k6n)
      have Pa := K6.pin (a, oe5) (List.mem_append_left _ List.mem_cons_self)
      have ga : sI6.heap.get? a = some oe5 := Pa.1
      have nab : a ≠ b := kn a oe5 ga
      obtain ⟨hb4, hd4⟩ := noneFrom_at hb6 hd6
      have hbF := Heap.get?_update_self (Obj.mapFields (·.setIfInBounds 2 (.ref a))) hb4 (Obj.isFreed_of_fields (Obj.data_mapFields hd4 (·.setIfInBounds 2 (.ref a))))
      have hdF := Obj.data_mapFields hd4 (·.setIfInBounds 2 (.ref a))
      have h1F : (((ws.setIfInBounds 3 Value.none).setIfInBounds 4 (Value.bool true)).setIfInBounds 2 (Value.ref a))[1]? = some Value.none := set_other (by decide) (set_other (by decide) (set_other (by decide) h16))
      refine ⟨b, ob, ws, rfl, hb6, hd6, h16, hi, nab, ⟨rfl, oe5, vs5, k6 _ _ ga, hd5, ?_⟩, fun o1 v1 x0 e1 e2 e3 => ?_, by rw [hz6.1]; exact L1, by rw [hz6.1]; exact L2', ?_⟩
      · rcases hchain with z | ⟨_, x0, o0, w0, z, hp, d0, c0, _⟩
        · exact .inl (by rw [hv5, z])
        · exact .inr ⟨x0, o0, w0, by rw [hv5, z], k6 _ _ (K6.pin (x0, o0) (List.mem_append_right _ hp)).1, d0, c0⟩
      · have z1 := e1.symm.trans (k6 _ _ ga)
        cases z1
        have z2 := e2.symm.trans hd5
        cases z2
        rcases hchain with z | ⟨_, x1, o0, w0, z, hp, d0, c0, _⟩
        · rw [hv5, z] at e3; cases e3
        · rw [hv5, z] at e3
          cases e3
          have g := (K6.pin (x0, o0) (List.mem_append_right _ hp)).1
          exact ⟨kn _ _ g, o0, k6 _ _ g⟩
      · refine tk _ _ (XEk.new (unsuiteX K6 ok) (fun y u z => ?_) hne6 hbF ⟨by rw [Obj.cls_mapFields, Obj.cls_mapFields, Obj.cls_mapFields]; exact hz6.1, by rw [HandSPX.dict_mapFields, HandSPX.dict_mapFields, HandSPX.dict_mapFields]; exact hz6.2.1, fun us hus => ?_⟩ hdF h1F nb6 os6 ag6 q6)
        · show ((noneFrom s6.heap b).update b (Obj.mapFields (·.setIfInBounds 2 (.ref a)))).get? y = some u
          rw [Heap.get?_update_other _ _ (Ne.symm (kn y u z))]
          exact k6n y u z
        · have zz := hus.symm.trans hdF
          cases zz
          refine ⟨.ref a, ?_, .inr ⟨a, oe5, vs5, v5, rfl, PySem.W.hideAll_get _ ga nfa, Pa.2.1, hd5, hv5, ?_⟩⟩
          · have hsz : 2 < ((ws.setIfInBounds 3 Value.none).setIfInBounds 4 (Value.bool true)).size := by rw [set_size, set_size]; omega
            simp [Array.getElem?_setIfInBounds]
            omega
          · rcases hchain with z | ⟨hn1, x0, o0, w0, z, hp, d0, c0, nf0⟩
            · rw [z]; exact .none
            · have g := K6.pin (x0, o0) (List.mem_append_right _ hp)
              rw [hn1, z]
              exact .inr ⟨x0, o0, w0, .none, rfl, PySem.W.hideAll_get _ g.1 nf0, g.2.1, d0, c0, rfl⟩
    exact wpAny_mono body5 (fun _ _ z => z.elim) (fun e6 s6 z => hpa (some (.ref a)) e6 s6 z)
  · cases f with
    | next =>
      obtain ⟨σ', H', J', q⟩ := hsp
      exact wpAny_execs_nil ⟨σ', H', J'.ofTry ok, q⟩
    | brk =>
      obtain ⟨σ', H', J', q⟩ := hsp
      exact ⟨σ', H', J'.ofTry ok, q⟩
    | cont =>
      obtain ⟨σ', H', J', q⟩ := hsp
      exact ⟨σ', H', J'.ofTry ok, q⟩
    | ret u =>
      obtain ⟨v, σ', H', J', r, q⟩ := hsp
      exact ⟨v, σ', H', J'.ofTry ok, r, q⟩
end
end K8
set_option maxRecDepth 100000
set_option maxHeartbeats 1000000
/-! Kb: the text by places; how its defs are called; the built-in names. -/
namespace K8
open PySem PySem.Spec PyProof.Rows L2

def top (i : Nat) : Stmt := PySem.Challenge.pw_truebooks_k08_whole_machines_and_rooms_t.main.body.getD i (.Pass ⟨0, 0, 0, 0⟩)

/-- a def of the top -/
def Dn (K : PySem.W.Frag) (mg : Str → Option Value) (x : Str) (i : Nat) (ps : List Str) : Prop := ∃ (f : Addr) (fd : FuncData), Fun K x x (top i) f fd ∧ mg x = some (.ref f) ∧ Binds K fd ps []
/-- .. that keeps a promise -/
def Ok (P : Program) (w : World) (K : PySem.W.Frag) (mg : Str → Option Value) (base : Heap) (CX : CXT) (k : Nat) (x : Str) (ps : List Str) (sp : Sp) : Prop :=
  ∃ (f : Addr) (fd : FuncData), FnOk P w K mg base CX k f fd ps sp ∧ mg x = some (.ref f) ∧ PySem.W.keepIn K (.ref f) = true ∧ Binds K fd ps []
section
variable {P : Program} {w : World} {K : PySem.W.Frag} {mg : Str → Option Value} {base : Heap}
theorem Dn.ok {x : Str} {i : Nat} {N ps : List Str} {k : Nat} {sp : Sp} (D : Dn K mg x i ps) (S : FnScope N ps (defScope (top i))) (len : ∀ vs H Q E, sp vs H Q E → vs.length = ps.length)
    (hbody : ∀ (f : Addr) (cdv : Value) (A : Around) (outer : List Env) (s : Shared) (H : Hp) (vs : List V) (Q : VK) (E : XK), Room k (A.deeper (envOfC x (defScope (top i)) s.heap.objs.size f cdv)) → sp vs H Q E →
      ∃ t, PSs (cxOf CX0 P w K mg base N x (defScope (top i)) f cdv A outer s H E).nox (defBody (top i)) t ∧ t { nx := fun _ H' => Q .non H', rt := Q } (start N vs) H) : Ok P w K mg base CX0 (k + 1) x ps sp := by
  obtain ⟨f, fd, F, hm, b⟩ := D
  exact ⟨f, fd, F.ok S len (hbody f), hm, F.kp, b⟩
/-- .. one that may raise -/
theorem Dn.okC {CX : CXT} {x : Str} {i : Nat} {N ps : List Str} {k : Nat} {sp : Sp} (D : Dn K mg x i ps) (S : FnScope N ps (defScope (top i))) (len : ∀ vs H Q E, sp vs H Q E → vs.length = ps.length)
    (hbody : ∀ (f : Addr) (cdv : Value) (A : Around) (outer : List Env) (s : Shared) (H : Hp) (vs : List V) (Q : VK) (E : XK), Room k (A.deeper (envOfC x (defScope (top i)) s.heap.objs.size f cdv)) → sp vs H Q E →
      ∃ t, PSs (cxOf CX P w K mg base N x (defScope (top i)) f cdv A outer s H E) (defBody (top i)) t ∧ t { nx := fun _ H' => Q .non H', rt := Q } (start N vs) H) : Ok P w K mg base CX (k + 1) x ps sp := by
  obtain ⟨f, fd, F, hm, b⟩ := D
  obtain ⟨oc, od, kV, doc, pm, an, cdv, ct, osl, rfl, lk, hcd⟩ := F.ex
  exact ⟨f, _, fn_of lk hcd S len fun A outer s H vs Q E hr hsp => hbody f cdv A outer s H vs Q E hr hsp, hm, F.kp, b⟩
theorem Ok.mono {CX : CXT} {j k : Nat} {x : Str} {ps : List Str} {sp : Sp} (F : Ok P w K mg base CX j x ps sp) (h : j ≤ k) : Ok P w K mg base CX k x ps sp := by
  obtain ⟨f, fd, F, r⟩ := F
  exact ⟨f, fd, F.mono h, r⟩
theorem Ok.imp {CX : CXT} {k : Nat} {x : Str} {ps : List Str} {sp sp' : Sp} (F : Ok P w K mg base CX k x ps sp) (h : ∀ vs H Q E, sp' vs H Q E → sp vs H Q E) : Ok P w K mg base CX k x ps sp' := by
  obtain ⟨f, fd, F, r⟩ := F
  exact ⟨f, fd, F.imp h, r⟩
end
section
variable {X : Cx} {CX : CXT} {k : Nat} {x : Str} {ps : List Str} {sp : Sp} {E : XK} {p pos : Pos} {e : Expr} {es : List Expr} {t : TA}
theorem pc (F : Ok X.prog X.w X.K X.mg X.base CX k x ps sp) (hr : Room k X.A) (hx : Passes CX X E) (ha : PA X (e :: es) t) (hg : Gl X x := by rfl) (hdb : (x == ("__debug__" : Str)) = false := by decide)
    (he : starEach (e :: es) X.env = (false, eval e X.env) :: starEach es X.env := by rfl) (hpl : (backTo pos (starEach es X.env)).any (·.1) = false := by rfl) : PE X (.Call (.Name x p) (e :: es) [] pos) (tCall sp [] E t) := by
  obtain ⟨f, fd, F, hm, hk, b⟩ := F
  exact pe_call F hr hg hm hk b .nil hx ha hdb he hpl
end

/-- the built-in names that the top leaves -/
structure Bn (mg : Str → Option Value) : Prop where
  isi : mg "isinstance" = none
  len : mg "len" = none
  list : mg "list" = none
  tuple : mg "tuple" = none
  int : mg "int" = none
  str : mg "str" = none
  bool : mg "bool" = none
  range : mg "range" = none
  max : mg "max" = none
  abs : mg "abs" = none
  enum : mg "enumerate" = none
  lcm : mg "lcm" = some (.builtin "math.lcm")
theorem b_isi : bootBuiltins "isinstance" = some (.builtin "isinstance") := by decide +kernel
theorem b_len : bootBuiltins "len" = some (.builtin "len") := by decide +kernel
theorem b_max : bootBuiltins "max" = some (.builtin "max") := by decide +kernel
theorem b_abs : bootBuiltins "abs" = some (.builtin "abs") := by decide +kernel
theorem b_list : bootBuiltins "list" = some (.type "list") := by decide +kernel
theorem b_tuple : bootBuiltins "tuple" = some (.type "tuple") := by decide +kernel
theorem b_int : bootBuiltins "int" = some (.type "int") := by decide +kernel
theorem b_str : bootBuiltins "str" = some (.type "str") := by decide +kernel
theorem b_bool : bootBuiltins "bool" = some (.type "bool") := by decide +kernel
section
variable {X : Cx} {p p1 p2 p3 pos : Pos} {e : Expr} {te : TE} {t : TA} {es : List Expr}
/-- a built-in class by its name -/
theorem n_int (B : Bn X.mg) (hg : Gl X "int" := by rfl) : PE X (.Name "int" p) (tC (.ty "int")) := pe_bltn hg B.int b_int rfl
theorem n_bool (B : Bn X.mg) (hg : Gl X "bool" := by rfl) : PE X (.Name "bool" p) (tC (.ty "bool")) := pe_bltn hg B.bool b_bool rfl
theorem n_str (B : Bn X.mg) (hg : Gl X "str" := by rfl) : PE X (.Name "str" p) (tC (.ty "str")) := pe_bltn hg B.str b_str rfl
theorem n_list (B : Bn X.mg) (hg : Gl X "list" := by rfl) : PE X (.Name "list" p) (tC (.ty "list")) := pe_bltn hg B.list b_list rfl
theorem n_tuple (B : Bn X.mg) (hg : Gl X "tuple" := by rfl) : PE X (.Name "tuple" p) (tC (.ty "tuple")) := pe_bltn hg B.tuple b_tuple rfl
end
end K8
set_option maxRecDepth 100000
set_option maxHeartbeats 1000000
namespace K8
open PySem PySem.Spec PyProof.Rows L2

/-- a whole number between -/
def wIn (d : PyData) (lo hi : Int) : Bool := match d with
  | .int i => decide (lo ≤ i) && decide (i ≤ hi)
  | _ => false
section
variable {P : Program} {w : World} {K : PySem.W.Frag} {mg : Str → Option Value} {base : Heap}
def spWhole : Sp := fun vs H Q _ => ∃ (N : Addr → Prop) (d : PyData) (v : V) (lo hi : Int), vs = [v, .int lo, .int hi] ∧ Dt N H d v ∧ Q (.bl (wIn d lo hi)) H
theorem sc_whole : FnScope ["thing", "low", "high"] ["thing", "low", "high"] (defScope (top 8)) := ⟨rfl, rfl, rfl, by decide +kernel, rfl, by decide +kernel, by decide +kernel⟩
theorem ok_whole (B : Bn mg) (D : Dn K mg "whole_within" 8 ["thing", "low", "high"]) : Ok P w K mg base CX0 1 "whole_within" ["thing", "low", "high"] spWhole := by
  refine D.ok sc_whole (fun vs H Q E h => ?_) (fun f cdv A outer s H vs Q E hr h => ?_)
  · obtain ⟨N, d, v, lo, hi, rfl, _⟩ := h; rfl
  · obtain ⟨N, d, v, lo, hi, rfl, h, k⟩ := h
    refine ⟨_, pss_one (ps_ret (pe_and (pe_callB isi_int (by rfl) B.isi b_isi (pa_cons (pv 0) (pa_cons (n_int B) pa_nil)))
      (pe_and (pe_not (pe_callB isi_bool (by rfl) B.isi b_isi (pa_cons (pv 0) (pa_cons (n_bool B) pa_nil)))) (pe_one (pe_chain op_le op_le (pv 1) (pv 0) (pv 2)))))), ?_⟩
    refine ⟨_, rfl, N, d, v, rfl, h, _, rfl, ?_⟩
    cases h with
    | int i =>
      refine iteT ⟨_, rfl, N, _, _, rfl, .int i, _, rfl, _, rfl, iteT ?_⟩
      refine ⟨_, rfl, _, rfl, _, _, rfl, rfl, _, rfl, ?_⟩
      refine ite2 (fun c => ?_) (fun c => ?_)
      · refine ⟨_, rfl, _, _, rfl, rfl, ?_⟩
        have e : wIn (.int i) lo hi = decide (i ≤ hi) := by show (decide (lo ≤ i) && decide (i ≤ hi)) = _; rw [c, Bool.true_and]
        rw [e] at k; exact k
      · have e : wIn (.int i) lo hi = false := by show (decide (lo ≤ i) && decide (i ≤ hi)) = _; rw [Bool.eq_false_iff.mpr c, Bool.false_and]
        rw [e] at k; exact k
    | bl b => exact iteT ⟨_, rfl, N, _, _, rfl, .bl b, _, rfl, _, rfl, iteF k⟩
    | _ => exact iteF k
end
end K8
set_option maxRecDepth 100000
set_option maxHeartbeats 1000000
/-! Ke: the program's own errors: made, raised. -/
namespace K8
open PySem PySem.Spec PyProof.Rows L2 L2H

theorem del_upd {H : Hp} {a : Addr} {o : HO} (h : H a = none) : del (upd H a o) a = H := by
  funext b
  by_cases hb : b = a
  · rw [hb, del_same, h]
  · rw [del_ne hb, upd_ne hb]
/-- an own error without fields, its def for making at hand -/
def spQ0 (K : PySem.W.Frag) (C : Addr) : SpQ := fun vs H Q => ∃ a, vs = [.ref a] ∧ H a = some (exo a C none) ∧ Q .non H
def Ex0 (P : Program) (w : World) (K : PySem.W.Frag) (mg : Str → Option Value) (base : Heap) (x : Str) (C : Addr) : Prop :=
  ∃ (fI : Addr) (fd : FuncData), OexC K C ∧ PySem.W.findIn K (.ref C) "__init__" = some (some (.ref fI)) ∧ PySem.W.typeIn K (.ref fI) = some (.type "function") ∧ FnQ P w K mg base 1 fI fd ["self"] (spQ0 K C) ∧ Binds K fd ["self"] [] ∧ mg x = some (.ref C)
section
variable {P : Program} {w : World} {K : PySem.W.Frag} {mg : Str → Option Value} {base : Heap} {C B fI : Addr} {fd : FuncData}
theorem sc_iL : FnScope ["self"] ["self"] (defScope (inClass (top 3) 0)) := ⟨rfl, rfl, rfl, by decide +kernel, rfl, by decide +kernel, by decide +kernel⟩
theorem sc_iT : FnScope ["self"] ["self"] (defScope (inClass (top 4) 0)) := ⟨rfl, rfl, rfl, by decide +kernel, rfl, by decide +kernel, by decide +kernel⟩
theorem sc_iM : FnScope ["self"] ["self"] (defScope (inClass (top 5) 0)) := ⟨rfl, rfl, rfl, by decide +kernel, rfl, by decide +kernel, by decide +kernel⟩
theorem q_iL (T : OexC K C) (BB : BaseC K B) (mB : mg "BookError" = some (.ref B)) (F : Fun K "__init__" "BadLetter.__init__" (inClass (top 3) 0) fI fd) : FnQ P w K mg base 1 fI fd ["self"] (spQ0 K C) := by
  refine Fun.okQ F sc_iL (fun vs H Q h => ?_) (fun cdv A outer s H vs Q hr h => ?_)
  · obtain ⟨a, rfl, _⟩ := h; rfl
  · obtain ⟨a, rfl, e, k⟩ := h
    exact ⟨_, pss_one (ps_expr (pe_binit BB (by rfl) mB (pa_cons (pv 0) (pa_cons pe_str pa_nil)))), _, rfl, a, C, _, rfl, by decide, T, e, k⟩
theorem q_iT (T : OexC K C) (BB : BaseC K B) (mB : mg "BookError" = some (.ref B)) (F : Fun K "__init__" "BadTest.__init__" (inClass (top 4) 0) fI fd) : FnQ P w K mg base 1 fI fd ["self"] (spQ0 K C) := by
  refine Fun.okQ F sc_iT (fun vs H Q h => ?_) (fun cdv A outer s H vs Q hr h => ?_)
  · obtain ⟨a, rfl, _⟩ := h; rfl
  · obtain ⟨a, rfl, e, k⟩ := h
    exact ⟨_, pss_one (ps_expr (pe_binit BB (by rfl) mB (pa_cons (pv 0) (pa_cons pe_str pa_nil)))), _, rfl, a, C, _, rfl, by decide, T, e, k⟩
theorem q_iM (T : OexC K C) (BB : BaseC K B) (mB : mg "BookError" = some (.ref B)) (F : Fun K "__init__" "BadMove.__init__" (inClass (top 5) 0) fI fd) : FnQ P w K mg base 1 fI fd ["self"] (spQ0 K C) := by
  refine Fun.okQ F sc_iM (fun vs H Q h => ?_) (fun cdv A outer s H vs Q hr h => ?_)
  · obtain ⟨a, rfl, _⟩ := h; rfl
  · obtain ⟨a, rfl, e, k⟩ := h
    exact ⟨_, pss_one (ps_expr (pe_binit BB (by rfl) mB (pa_cons (pv 0) (pa_cons pe_str pa_nil)))), _, rfl, a, C, _, rfl, by decide, T, e, k⟩

/-- BadMachine's -/
def fsM (wh : Str) (at_ : Int) : List (Str × V) := [("at", .int at_), ("what", .str wh)]
def spQM (K : PySem.W.Frag) (C : Addr) : SpQ := fun vs H Q => ∃ (a : Addr) (wh : Str) (at_ : Int), vs = [.ref a, .str wh, .int at_] ∧ wh.length ≤ 100 ∧ at_.natAbs < 2 ^ 60 ∧ H a = some (exo a C none) ∧
  ∀ dx, H dx = none → dx ≠ a → Q .non (upd (upd (upd H dx (exd dx [("what", .str wh)])) a (exo a C (some dx))) dx (exd dx (fsM wh at_)))
theorem sc_iB : FnScope ["self", "what", "at"] ["self", "what", "at"] (defScope (inClass (top 6) 0)) := ⟨rfl, rfl, rfl, by decide +kernel, rfl, by decide +kernel, by decide +kernel⟩
theorem log_60 {n : Nat} (h : n < 2 ^ 60) : n.log2 < 60 := by
  by_cases h0 : n = 0
  · rw [h0]; decide
  · exact (Nat.log2_lt h0).mpr h
theorem len_int {i : Int} (h : i.natAbs < 2 ^ 60) : (Str.ofString (toString i)).length ≤ 100 := by
  have e := int_text_length_le (k := 60) (by decide) (log_60 h)
  rw [PySem.ofString_length]; omega
theorem q_iB (T : OexC K C) (BB : BaseC K B) (mB : mg "BookError" = some (.ref B)) (nW : PySem.W.findIn K (.ref C) "what" = some none) (nA : PySem.W.findIn K (.ref C) "at" = some none) (F : Fun K "__init__" "BadMachine.__init__" (inClass (top 6) 0) fI fd) :
    FnQ P w K mg base 1 fI fd ["self", "what", "at"] (spQM K C) := by
  refine Fun.okQ F sc_iB (fun vs H Q h => ?_) (fun cdv A outer s H vs Q hr h => ?_)
  · obtain ⟨a, wh, at_, rfl, _⟩ := h; rfl
  · obtain ⟨a, wh, at_, rfl, hw, hat, e, k⟩ := h
    refine ⟨_, pss_cons (ps_expr (pe_binit BB (by rfl) mB (pa_cons (pv 0) (pa_cons (pe_joined (.cons pe_str (.cons (pe_fmt (pv 1)) (.cons pe_str (.cons (pe_fmt (pv 2)) .nil))))) pa_nil))))
      (pss_cons (ps_ost (pv 0) (pv 1)) (pss_one (ps_ost (pv 0) (pv 2)))), ?_⟩
    have z1 : (Str.empty ++ Str.ofString "wrong ").length ≤ 100 := by rw [PySem.Str.length_append]; decide +kernel
    have z2 : (Str.empty ++ Str.ofString "wrong " ++ wh).length ≤ 200 := by rw [PySem.Str.length_append]; omega
    have z3 : (Str.empty ++ Str.ofString "wrong " ++ wh ++ Str.ofString " at ").length ≤ 300 := by rw [PySem.Str.length_append, show (Str.ofString " at ").length = 4 by decide +kernel]; omega
    have z4 := len_int hat
    have sz : ∀ {n : Nat}, n ≤ 1000 → n ≤ sizeLine := fun {n} h => by rw [sizeLine_eq]; omega
    refine ⟨_, rfl, _, rfl, sz (by omega), _, rfl, .inl ⟨wh, rfl, sz (by omega), wh, rfl, sz (by omega), _, rfl, sz (by omega), _, rfl, .inr ⟨at_, rfl, Nat.lt_trans (log_60 hat) (by decide), _, rfl, sz (by rw [PySem.Str.length_append]; omega), a, C, _, rfl, (by show 1 ≤ 1000; decide), T, e, ?_⟩⟩⟩
    refine ⟨_, rfl, _, rfl, a, C, rfl, T, nW, .inl ⟨e, fun dx nd ne => ?_⟩⟩
    refine ⟨_, rfl, _, rfl, a, C, rfl, T, nA, .inr ⟨dx, _, upd_same, (by rw [upd_ne ne]; exact upd_same), (by show 1 ≤ 900; decide), ?_⟩⟩
    exact k dx nd ne
end
/-! ### made and raised -/
section
variable {X : Cx} {x : Str} {C : Addr} {p pos pos2 : Pos} {W : WX}
/-- C(), anywhere -/
theorem mk0 (T : Ex0 X.prog X.w X.K X.mg X.base x C) (hr : RoomH 2 X.A) (hg : Gl X x := by rfl) (hdb : (x == ("__debug__" : Str)) = false := by decide) : PMk5 X (.Call (.Name x p) [] [] pos) (fun _ H Q => Q (.ref C) none H) := by
  obtain ⟨fI, fd, T, iC, tI, F, b, hm⟩ := T
  refine fun pins s σ H Q I q => pmkQ0 (k := 1) T iC tI F hr b hm hg hdb pins s σ H Q I ⟨Nat.zero_le _, fun a ha => ⟨a, rfl, upd_same, rfl, .inl ⟨upd_same, ?_⟩⟩⟩
  rw [del_upd ha]; exact q
theorem raise0 (T : Ex0 X.prog X.w X.K X.mg X.base x C) (hc : X.calm = true) (hr : RoomH 2 X.A) (tk : L2N.Takes X W) (hg : Gl X x := by rfl) (hdb : (x == ("__debug__" : Str)) = false := by decide) :
    PS X (.Raise (some (.Call (.Name x p) [] [] pos)) none pos2) (fun _ σ H => W (.ref C) none σ H) := L2N.ps_raise hc tk (mk0 T hr hg hdb).pmk
/-- BadMachine, its class at C, its def for making at hand -/
def ExM (P : Program) (w : World) (K : PySem.W.Frag) (mg : Str → Option Value) (base : Heap) (C : Addr) : Prop :=
  ∃ (fI : Addr) (fd : FuncData), OexC K C ∧ PySem.W.findIn K (.ref C) "__init__" = some (some (.ref fI)) ∧ PySem.W.typeIn K (.ref fI) = some (.type "function") ∧ FnQ P w K mg base 1 fI fd ["self", "what", "at"] (spQM K C) ∧ Binds K fd ["self", "what", "at"] [] ∧ mg "BadMachine" = some (.ref C)
def tMkM (C : Addr) (ta : TA) : L2.St → Hp → XK → Prop := fun σ H Q => ta σ H fun vs H1 => ∃ (wh : Str) (at_ : Int), vs = [.str wh, .int at_] ∧ wh.length ≤ 100 ∧ at_.natAbs < 2 ^ 60 ∧ ∀ d, H1 d = none → Q (.ref C) (some d) (upd H1 d (.xd (fsM wh at_)))
theorem mkM {e : Expr} {es : List Expr} {ta : TA} (T : ExM X.prog X.w X.K X.mg X.base C) (hr : RoomH 2 X.A) (ha : PA X (e :: es) ta) (hg : Gl X "BadMachine" := by rfl)
    (he : starEach (e :: es) X.env = (false, eval e X.env) :: starEach es X.env := by rfl) (hpl : (backTo pos (starEach es X.env)).any (·.1) = false := by rfl) : PMk5 X (.Call (.Name "BadMachine" p) (e :: es) [] pos) (tMkM C ta) := by
  obtain ⟨fI, fd, T, iC, tI, F, b, hm⟩ := T
  intro pins s σ H Q I h
  refine wpAny_Call_Name_kw (ld_glob I hg hm ?_ (by decide))
  refine PySem.W.callWith_K (h₀ := X.base) I.ok.mod.kin T.kC (thn (ha.run pos pins s σ H _ I h) fun us s1 ⟨vs, H1, I1, r1, wh, at_, ev, h1, h2, q1⟩ => ⟨I1.kIn, ?_⟩) he hpl
  subst ev
  refine run_mkQ (k := 1) T iC tI F hr b I1 r1 (by show 2 ≤ 1000; decide) fun a ha => ⟨a, wh, at_, rfl, h1, h2, upd_same, fun dx nd ne => ⟨rfl, .inr ⟨dx, fsM wh at_, ?_, upd_same, ?_, ?_⟩⟩⟩
  · rw [upd_ne (Ne.symm ne)]; exact upd_same
  · rw [upd_ne ne] at nd; exact nd
  · have nd' : H1 dx = none := by rw [upd_ne ne] at nd; exact nd
    have e : upd (del (upd (upd (upd (upd H1 a (exo a C none)) dx (exd dx [("what", V.str wh)])) a (exo a C (some dx))) dx (exd dx (fsM wh at_))) a) dx (.xd (fsM wh at_)) = upd H1 dx (.xd (fsM wh at_)) := by
      funext b
      by_cases hb : b = dx
      · rw [hb, upd_same, upd_same]
      · rw [upd_ne hb, upd_ne hb]
        by_cases hba : b = a
        · rw [hba, del_same, ha]
        · rw [del_ne hba, upd_ne hb, upd_ne hba, upd_ne hb, upd_ne hba]
    rw [e]
    exact q1 dx nd'
end
end K8
set_option maxRecDepth 100000
set_option maxHeartbeats 1000000
/-! Kc: comparisons with plain readings; ways by a decidable. -/
namespace K8
open PySem PySem.Spec PyProof.Rows L2

theorem itd {p A B : Prop} [Decidable p] (h1 : p → A) (h2 : ¬ p → B) : if decide p = true then A else B := by
  by_cases h : p
  · rw [if_pos (decide_eq_true h)]; exact h1 h
  · rw [if_neg (by simpa using h)]; exact h2 h
theorem itn {p A B : Prop} [Decidable p] (h1 : ¬ p → A) (h2 : p → B) : if (!decide p) = true then A else B := by
  by_cases h : p
  · rw [if_neg (by simpa using h)]; exact h2 h
  · rw [if_pos (by simpa using h)]; exact h1 h
theorem itb {c : Bool} {A B : Prop} (h1 : c = true → A) (h2 : c = false → B) : if c = true then A else B := by
  cases c with
  | true => exact iteT (h1 rfl)
  | false => exact iteF (h2 rfl)
theorem itnb {c : Bool} {A B : Prop} (h1 : c = false → A) (h2 : c = true → B) : if (!c) = true then A else B := by
  cases c with
  | true => exact iteF (h2 rfl)
  | false => exact iteT (h1 rfl)
/-- a test that is known -/
theorem ity {c : Bool} {A B : Prop} (e : c = true) (h : A) : if c = true then A else B := by rw [if_pos e]; exact h
theorem itno {c : Bool} {A B : Prop} (e : c = false) (h : B) : if c = true then A else B := by rw [if_neg (by rw [e]; exact Bool.false_ne_true)]; exact h
section
variable {X : Cx}
def rEqS : R2 := fun x y H Q => ∃ a b : Str, x = .str a ∧ y = .str b ∧ Q (.bl (decide (a = b))) H
def rEqI : R2 := fun x y H Q => ∃ a b : Int, x = .int a ∧ y = .int b ∧ Q (.bl (decide (a = b))) H
def rNeI : R2 := fun x y H Q => ∃ a b : Int, x = .int a ∧ y = .int b ∧ Q (.bl (!decide (a = b))) H
def rEqB : R2 := fun x y H Q => ∃ a b : Bool, x = .bl a ∧ y = .bl b ∧ Q (.bl (a == b)) H
theorem eqS : OpR X (compareOp .Eq) rEqS := fun pins s σ H x y v u Q I rx ry ⟨a, b, ex, ey, q⟩ => by
  subst ex ey
  refine op_eq pins s σ H _ _ v u Q I rx ry ⟨rfl, ?_⟩
  have e : decide (V.str a = V.str b) = decide (a = b) := by simp
  rw [e]; exact q
def rNeS : R2 := fun x y H Q => ∃ a b : Str, x = .str a ∧ y = .str b ∧ Q (.bl (!decide (a = b))) H
theorem neS : OpR X (compareOp .NotEq) rNeS := fun pins s σ H x y v u Q I rx ry ⟨a, b, ex, ey, q⟩ => by
  subst ex ey
  refine op_ne pins s σ H _ _ v u Q I rx ry ⟨rfl, ?_⟩
  have e : decide (V.str a = V.str b) = decide (a = b) := by simp
  rw [e]; exact q
theorem eqI : OpR X (compareOp .Eq) rEqI := fun pins s σ H x y v u Q I rx ry ⟨a, b, ex, ey, q⟩ => by
  subst ex ey
  refine op_eq pins s σ H _ _ v u Q I rx ry ⟨rfl, ?_⟩
  have e : decide (V.int a = V.int b) = decide (a = b) := by simp
  rw [e]; exact q
theorem neI : OpR X (compareOp .NotEq) rNeI := fun pins s σ H x y v u Q I rx ry ⟨a, b, ex, ey, q⟩ => by
  subst ex ey
  refine op_ne pins s σ H _ _ v u Q I rx ry ⟨rfl, ?_⟩
  have e : decide (V.int a = V.int b) = decide (a = b) := by simp
  rw [e]; exact q
theorem eqB : OpR X (compareOp .Eq) rEqB := fun pins s σ H x y v u Q I rx ry ⟨a, b, ex, ey, q⟩ => by
  subst ex ey
  refine op_eq pins s σ H _ _ v u Q I rx ry ⟨rfl, ?_⟩
  rw [dec_bl]; exact q
/-- w in (written texts), a tuple or a list -/
def rInSs : R2 := fun x y H Q => ∃ (w : Str) (p : Addr) (ss : List Str), x = .str w ∧ y = .ref p ∧ (H p = some (.tup (ss.map V.str)) ∨ H p = some (.lst (ss.map V.str))) ∧ Q (.bl (decide (w ∈ ss))) H
def rNiSs : R2 := fun x y H Q => ∃ (w : Str) (p : Addr) (ss : List Str), x = .str w ∧ y = .ref p ∧ (H p = some (.tup (ss.map V.str)) ∨ H p = some (.lst (ss.map V.str))) ∧ Q (.bl (!decide (w ∈ ss))) H
theorem inV_strs {w : Str} : ∀ ss : List Str, inV (.str w) (ss.map V.str) = decide (w ∈ ss)
  | [] => rfl
  | a :: r => by
    have ih := inV_strs (w := w) r
    unfold inV at ih ⊢
    rw [List.map_cons, List.any_cons, ih, Bool.eq_iff_iff]
    simp only [Bool.or_eq_true, decide_eq_true_eq, List.mem_cons]
    show (a == w) = true ∨ _ ↔ _
    rw [beq_iff_eq]
    constructor
    · rintro (h | h)
      · exact .inl h.symm
      · exact .inr h
    · rintro (h | h)
      · exact .inl h.symm
      · exact .inr h
theorem flat_strs (ss : List Str) : (ss.map V.str).all flatV = true := by
  rw [List.all_eq_true]
  intro x hx
  obtain ⟨s, _, rfl⟩ := List.mem_map.mp hx
  rfl
theorem inSs : OpR X (compareOp .In) rInSs := fun pins s σ H x y v u Q I rx ry ⟨w, p, ss, ex, ey, h, q⟩ =>
  op_in_seq pins s σ H x y v u Q I rx ry ⟨p, ss.map V.str, ey, h.elim (fun h => .inr (SqT.of h)) (fun h => .inl (SqL.of h)), by rw [ex]; rfl, flat_strs ss, by rw [ex]; show Q (.bl (inV _ _)) H; rw [inV_strs]; exact q⟩
theorem niSs : OpR X (compareOp .NotIn) rNiSs := fun pins s σ H x y v u Q I rx ry ⟨w, p, ss, ex, ey, h, q⟩ =>
  op_notIn_seq pins s σ H x y v u Q I rx ry ⟨p, ss.map V.str, ey, h.elim (fun h => .inr (SqT.of h)) (fun h => .inl (SqL.of h)), by rw [ex]; rfl, flat_strs ss, by rw [ex]; show Q (.bl (!inV _ _)) H; rw [inV_strs]; exact q⟩
theorem PT.imp {e : Expr} {t t' : TT} (h : PT X e t) (k : ∀ σ H Q, t' σ H Q → t σ H Q) : PT X e t' := ⟨fun pins s σ H Q I q => h.run pins s σ H Q I (k σ H Q q)⟩
theorem PE.imp {e : Expr} {t t' : TE} (h : PE X e t) (k : ∀ σ H Q, t' σ H Q → t σ H Q) : PE X e t' := ⟨fun pins s σ H Q I q => h.run pins s σ H Q I (k σ H Q q)⟩
/-- isinstance(x, (list, tuple)), x the name in slot i, a test -/
def tSq (i : Nat) : TT := fun σ H Q => ∃ (v : V) (N : Addr → Prop) (d : PyData), σ[i]? = some (some v) ∧ Dt N H d v ∧ ∀ H', Same H H' → Q (seqOf d).isSome H'
theorem pt_sq (i : Nat) {x : Str} {p px p1 p2 p3 pos : Pos} {kk} (B : Bn X.mg) (hx : PE X (.Name x px) (tVar i)) (g0 : Gl X "isinstance" := by rfl) (g1 : Gl X "list" := by rfl) (g2 : Gl X "tuple" := by rfl)
    (s1 : starEach [.Name x px, .Tuple [.Name "list" p1, .Name "tuple" p2] kk p3] X.env = (false, eval (.Name x px) X.env) :: starEach [.Tuple [.Name "list" p1, .Name "tuple" p2] kk p3] X.env := by rfl)
    (s2 : starEach [.Tuple [.Name "list" p1, .Name "tuple" p2] kk p3] X.env = (false, eval (.Tuple [.Name "list" p1, .Name "tuple" p2] kk p3) X.env) :: starEach [] X.env := by rfl)
    (s3 : starEach [.Name "list" p1, .Name "tuple" p2] X.env = (false, eval (.Name "list" p1) X.env) :: starEach [.Name "tuple" p2] X.env := by rfl)
    (s4 : starEach [.Name "tuple" p2] X.env = (false, eval (.Name "tuple" p2) X.env) :: starEach [] X.env := by rfl)
    (hpl : (backTo pos (starEach [.Tuple [.Name "list" p1, .Name "tuple" p2] kk p3] X.env)).any (·.1) = false := by rfl)
    (hi : ∀ whole, isTrue (.Call (.Name "isinstance" p) [.Name x px, .Tuple [.Name "list" p1, .Name "tuple" p2] kk p3] [] pos) X.env whole = (do let v ← whole; standAt pos; holding [v] (truthy v)) := by intro _; rfl) :
    PT X (.Call (.Name "isinstance" p) [.Name x px, .Tuple [.Name "list" p1, .Name "tuple" p2] kk p3] [] pos) (tSq i) := by
  refine PT.imp (pt_val (pe_callB isi_seq g0 B.isi b_isi (pa_cons hx (pa_cons (pe_tup (pa_cons (n_list B g1) (pa_cons (n_tuple B g2) pa_nil s4) s3)) pa_nil s2) s1) (by decide) (by decide) s1 hpl) hi) fun σ H Q h => ?_
  obtain ⟨v, N, d, e, hd, q⟩ := h
  exact ⟨v, e, (by show 2 ≤ sizeLine; decide), fun tp ntp => ⟨N, d, v, tp, rfl, upd_same, hd.same (same_new ntp), _, rfl, q _ (same_new ntp)⟩⟩
/-- w in (two written texts), w the name in slot i, a test -/
def tIn2 (i : Nat) (a b : Str) : TT := fun σ H Q => ∃ w : Str, σ[i]? = some (some (.str w)) ∧ ∀ H', Same H H' → Q (decide (w = a ∨ w = b)) H'
theorem pt_in2 (i : Nat) {x a b : Str} {px p1 p2 p3 pos : Pos} {k1 k2 kk} (hx : PE X (.Name x px) (tVar i))
    (s3 : starEach [.Constant (.str a) k1 p1, .Constant (.str b) k2 p2] X.env = (false, eval (.Constant (.str a) k1 p1) X.env) :: starEach [.Constant (.str b) k2 p2] X.env := by rfl)
    (s4 : starEach [.Constant (.str b) k2 p2] X.env = (false, eval (.Constant (.str b) k2 p2) X.env) :: starEach [] X.env := by rfl) :
    PT X (.Compare (.Name x px) [.In] [.Tuple [.Constant (.str a) k1 p1, .Constant (.str b) k2 p2] kk p3] pos) (tIn2 i a b) := by
  refine PT.imp (pt_cmpR inSs hx (pe_tup (pa_cons pe_str (pa_cons pe_str pa_nil s4) s3)) rfl) fun σ H Q h => ?_
  obtain ⟨w, e, q⟩ := h
  refine ⟨_, e, (by show 2 ≤ sizeLine; decide), fun tp ntp => ⟨w, tp, [a, b], rfl, rfl, .inl upd_same, _, rfl, ?_⟩⟩
  have z : decide (w ∈ [a, b]) = decide (w = a ∨ w = b) := by simp
  show Q (decide (w ∈ [a, b])) _
  rw [z]
  exact q _ (same_new ntp)
end
end K8
set_option maxRecDepth 100000
set_option maxHeartbeats 1000000
/-! P2: letters, tests. -/
namespace K8
open PySem PySem.Spec PyProof.Rows L2 L2H

inductive Lt where
  | set (v : Int) | add (k : Int) | turn | mod (m : Int)
inductive Ts where
  | below (k : Int) | is (k : Int) | rest (m r : Int)
inductive Mv where
  | stay | deed (l : Lt) | so (t : Ts) | nt (t : Ts)
def Lt.enc : Lt → PyData
  | .set v => .tuple [.str "set", .int v]
  | .add v => .tuple [.str "add", .int v]
  | .turn => .tuple [.str "turn"]
  | .mod v => .tuple [.str "mod", .int v]
def Ts.enc : Ts → PyData
  | .below v => .tuple [.str "below", .int v]
  | .is v => .tuple [.str "is", .int v]
  | .rest m r => .tuple [.str "rest", .int m, .int r]
def Mv.enc : Mv → PyData
  | .stay => .tuple [.str "stay"]
  | .deed l => .tuple [.str "deed", l.enc]
  | .so t => .tuple [.str "so", t.enc]
  | .nt t => .tuple [.str "not", t.enc]
/-- what check_letter makes of a datum -/
def chkLv (w : Str) (e : PyData) : Option Lt :=
  if (w = "set" ∨ w = "add") ∧ wIn e (-20) 20 = true then (match e with | .int v => if w = "set" then some (.set v) else some (.add v) | _ => none)
  else if w = "mod" ∧ wIn e 1 6 = true then (match e with | .int v => some (.mod v) | _ => none) else none
def chkLo (w : Str) (r : List PyData) : Option Lt := match r with
  | [e] => chkLv w e
  | _ => none
def chkLw (w : Str) (r : List PyData) : Option Lt := if w = "turn" ∧ r.length = 0 then some .turn else chkLo w r
def chkL (d : PyData) : Option Lt := match seqOf d with
  | some (.str w :: r) => chkLw w r
  | _ => none
def chkT1 (w : Str) (e : PyData) : Option Ts := if (w = "below" ∨ w = "is") ∧ wIn e (-20) 20 = true then (match e with | .int v => if w = "below" then some (.below v) else some (.is v) | _ => none) else none
def chkT2 (w : Str) (e f : PyData) : Option Ts := if w = "rest" ∧ wIn e 1 6 = true then (match e with | .int m => if wIn f 0 (m - 1) = true then (match f with | .int q => some (.rest m q) | _ => none) else none | _ => none) else none
def chkTw (w : Str) (r : List PyData) : Option Ts := match r with
  | [e] => chkT1 w e
  | [e, f] => chkT2 w e f
  | _ => none
def chkT (d : PyData) : Option Ts := match seqOf d with
  | some (.str w :: r) => chkTw w r
  | _ => none
theorem wIn_int {e : PyData} {lo hi : Int} (h : wIn e lo hi = true) : ∃ v : Int, e = .int v ∧ lo ≤ v ∧ v ≤ hi := by
  cases e with
  | int v =>
    have h' : (decide (lo ≤ v) && decide (v ≤ hi)) = true := h
    obtain ⟨h1, h2⟩ := Bool.and_eq_true_iff.mp h'
    exact ⟨v, rfl, of_decide_eq_true h1, of_decide_eq_true h2⟩
  | _ => cases h

section
variable {P : Program} {w : World} {K : PySem.W.Frag} {mg : Str → Option Value} {base : Heap}
/-- new objects may be let through -/
def Fn (N : Addr → Prop) (H : Hp) : Prop := ∀ b, H b = none → N b
theorem Fn.same {N : Addr → Prop} {H H' : Hp} (f : Fn N H) (s : Same H H') : Fn N H' := fun b h => f b (s.free h)
/-- a checker's promise -/
def spChk {α : Type} (chk : PyData → Option α) (enc : α → PyData) (C : Addr) : Sp := fun vs H Q E => ∃ (N : Addr → Prop) (d : PyData) (v : V), vs = [v] ∧ Dt N H d v ∧ Fn N H ∧
  (∀ l, chk d = some l → ∀ p H', Same H H' → Dt N H' (enc l) p → Q p H') ∧ (chk d = none → ∀ H', Same H H' → E (.ref C) none H')
theorem sc_letter : FnScope ["letter", "word"] ["letter"] (defScope (top 9)) := ⟨rfl, rfl, rfl, by decide +kernel, rfl, by decide +kernel, by decide +kernel⟩
/-- the chain of heaps -/
theorem same_up {H H' : Hp} {p : Addr} {o : HO} (s : Same H H') (h : H' p = none) : Same H (upd H' p o) := s.trans (same_new h)
theorem ok_letter {C : Addr} (B : Bn mg) (D : Dn K mg "check_letter" 9 ["letter"]) (W : Ok P w K mg base CX0 1 "whole_within" ["thing", "low", "high"] spWhole) (X : Ex0 P w K mg base "BadLetter" C) :
    Ok P w K mg base (L2N.CX P w) 3 "check_letter" ["letter"] (spChk chkL Lt.enc C) := by
  refine D.okC sc_letter (fun vs H Q E h => ?_) (fun f cdv A outer s H vs Q E hr h => ?_)
  · obtain ⟨N, d, v, rfl, _⟩ := h; rfl
  · obtain ⟨N, d, v, rfl, hd, fn, kq, ke⟩ := h
    have hr1 : Room 1 _ := hr.mono (by decide)
    refine ⟨_, pss_cons (ps_if (PW.pt (pw_or (pt_not (pt_sq 0 B (pv 0)))
        (pw_or (pt_cmpR eqI (pe_callB len_dt (by rfl) B.len b_len (pa_cons (pv 0) pa_nil)) pe_int (nomark _))
          (pw_or1 (pt_not (pt_val (pe_callB isi_str (by rfl) B.isi b_isi (pa_cons (pe_ix ix_dt (pv 0) pe_int (fun _ _ => rfl)) (pa_cons (n_str B) pa_nil)))))))))
        (pss_one (raise0 X rfl (roomH_of hr) (L2N.takes_of rfl rfl rfl rfl))) pss_nil)
      (pss_cons (ps_set (i := 1) sc_letter.nd rfl (Or.inl rfl) (pe_ix ix_dt (pv 0) pe_int (fun _ _ => rfl)))
      (pss_cons (ps_if (PW.pt (pw_and (pt_cmpR eqS (pv 1) pe_str (nomark _)) (pw_and1 (pt_cmpR eqI (pe_callB len_dt (by rfl) B.len b_len (pa_cons (pv 0) pa_nil)) pe_int (nomark _)))))
        (pss_one (ps_ret (pe_tup (pa_cons pe_str pa_nil)))) pss_nil)
      (pss_cons (ps_if (PW.pt (pw_and (pt_in2 1 (pv 1)) (pw_and (pt_cmpR eqI (pe_callB len_dt (by rfl) B.len b_len (pa_cons (pv 0) pa_nil)) pe_int (nomark _))
          (pw_and1 (pt_val (pc W hr1 pass0 (pa_cons (pe_ix ix_dt (pv 0) pe_int (fun _ _ => rfl)) (pa_cons (pe_un un_neg pe_int) (pa_cons pe_int pa_nil)))))))))
        (pss_one (ps_ret (pe_tup (pa_cons (pv 1) (pa_cons (pe_ix ix_dt (pv 0) pe_int (fun _ _ => rfl)) pa_nil))))) pss_nil)
      (pss_cons (ps_if (PW.pt (pw_and (pt_cmpR eqS (pv 1) pe_str (nomark _)) (pw_and (pt_cmpR eqI (pe_callB len_dt (by rfl) B.len b_len (pa_cons (pv 0) pa_nil)) pe_int (nomark _))
          (pw_and1 (pt_val (pc W hr1 pass0 (pa_cons (pe_ix ix_dt (pv 0) pe_int (fun _ _ => rfl)) (pa_cons pe_int (pa_cons pe_int pa_nil)))))))))
        (pss_one (ps_ret (pe_tup (pa_cons (pv 1) (pa_cons (pe_ix ix_dt (pv 0) pe_int (fun _ _ => rfl)) pa_nil))))) pss_nil)
      (pss_one (raise0 X rfl (roomH_of hr) (L2N.takes_of rfl rfl rfl rfl))))))), ?_⟩
    refine ⟨v, N, d, rfl, hd, fun H1 s1 => ?_⟩
    cases hs : seqOf d with
    | none => exact iteT (iteT (ke (by unfold chkL; rw [hs]) H1 s1))
    | some ds =>
      have hd1 := hd.same s1
      refine iteF ⟨_, rfl, N, d, v, ds, rfl, hd1, hs, _, _, rfl, rfl, _, rfl, ?_⟩
      match ds, hs with
      | [], hs => exact iteT (iteT (ke (by unfold chkL; rw [hs]) H1 s1))
      | e :: r, hs =>
        refine itno (decide_eq_false (by rw [List.length_cons]; omega)) ?_
        refine ⟨_, rfl, N, d, _, 0, e, hd1, rfl, hs, rfl, fun v0 h0 => ⟨N, e, v0, rfl, h0, _, rfl, ?_⟩⟩
        have bad : isStr e = false → E (.ref C) none H1 := fun z => ke (by unfold chkL; rw [hs]; cases e with | str w => cases z | _ => rfl) H1 s1
        cases h0 with
        | str w =>
          refine iteF ?_
          -- word = letter[0]
          refine ⟨_, rfl, N, d, _, 0, .str w, hd1, rfl, hs, rfl, fun v1 h1 => ?_⟩
          cases h1
          -- word == 'turn' and len(letter) == 1
          refine ⟨_, rfl, _, _, rfl, rfl, _, rfl, ?_⟩
          have noturn : ¬ (w = "turn" ∧ r.length = 0) → tSeq (tIfS (tAnd (tIn2 1 "set" "add") (tAnd (tTest (tOp rEqI (tCB rLenD (tCons (tVar 0) tNil)) (tC (.int 2)))) (tB (tCall spWhole [] E0 (tCons (tOp rIxDt (tVar 0) (tC (.int 1))) (tCons (tUn (rU fun i => .int (-i)) (tC (.int 20))) (tCons (tC (.int 20)) tNil))))))) (tRet (tTup (tCons (tVar 1) (tCons (tOp rIxDt (tVar 0) (tC (.int 1))) tNil)))) tNext)
              (tSeq (tIfS (tAnd (tTest (tOp rEqS (tVar 1) (tC (.str "mod")))) (tAnd (tTest (tOp rEqI (tCB rLenD (tCons (tVar 0) tNil)) (tC (.int 2)))) (tB (tCall spWhole [] E0 (tCons (tOp rIxDt (tVar 0) (tC (.int 1))) (tCons (tC (.int 1)) (tCons (tC (.int 6)) tNil))))))) (tRet (tTup (tCons (tVar 1) (tCons (tOp rIxDt (tVar 0) (tC (.int 1))) tNil)))) tNext)
              (fun _ σ H => E (.ref C) none H)) { nx := fun _ H' => Q .non H', rt := Q } [some v, some (.str w)] H1 := fun nt => by
            have sz2 : 2 ≤ sizeLine := by show 2 ≤ sizeLine; decide
            have c1 : chkL d = chkLo w r := by unfold chkL; rw [hs]; exact if_neg nt
            -- word == 'mod' and ..
            have nomod : ∀ H2, Same H H2 → (∀ e, r = [e] → ¬ ((w = "set" ∨ w = "add") ∧ wIn e (-20) 20 = true)) → tSeq (tIfS (tAnd (tTest (tOp rEqS (tVar 1) (tC (.str "mod")))) (tAnd (tTest (tOp rEqI (tCB rLenD (tCons (tVar 0) tNil)) (tC (.int 2)))) (tB (tCall spWhole [] E0 (tCons (tOp rIxDt (tVar 0) (tC (.int 1))) (tCons (tC (.int 1)) (tCons (tC (.int 6)) tNil))))))) (tRet (tTup (tCons (tVar 1) (tCons (tOp rIxDt (tVar 0) (tC (.int 1))) tNil)))) tNext)
              (fun _ σ H => E (.ref C) none H) { nx := fun _ H' => Q .non H', rt := Q } [some v, some (.str w)] H2 := fun H2 s2 na => by
              have hd2 := hd.same s2
              have out : (∀ e, r = [e] → ¬ (w = "mod" ∧ wIn e 1 6 = true)) → E (.ref C) none H2 := fun z => by
                refine ke ?_ H2 s2
                rw [c1]
                match r, na, z with
                | [], _, _ => rfl
                | [e], na, z => exact (if_neg (na e rfl)).trans (if_neg (z e rfl))
                | _ :: _ :: _, _, _ => rfl
              refine ⟨_, rfl, _, _, rfl, rfl, _, rfl, ?_⟩
              refine itd (fun e1 => ?_) (fun e1 => iteF (out fun e _ z => e1 z.1))
              refine ⟨_, rfl, N, d, v, _, rfl, hd2, hs, _, _, rfl, rfl, _, rfl, ?_⟩
              refine itd (fun e2 => ?_) (fun e2 => iteF (out fun e z _ => e2 (by rw [z]; rfl)))
              match r, hs, e2, c1, na, out with
              | [e], hs, _, c1, na, out =>
                refine ⟨_, rfl, N, d, _, 1, e, hd2, rfl, hs, rfl, fun v1 h1 => ⟨N, e, v1, 1, 6, rfl, h1, _, rfl, ?_⟩⟩
                refine itb (fun e3 => ?_) (fun e3 => out fun e' z z2 => by cases z; rw [e3] at z2; cases z2.2)
                obtain ⟨z, rfl, _, _⟩ := wIn_int e3
                refine ⟨_, rfl, _, rfl, N, d, _, 1, _, hd2, rfl, hs, rfl, fun v2 h2 => ⟨sz2, fun p np => ?_⟩⟩
                refine kq (.mod z) (by rw [c1]; exact (if_neg (na _ rfl)).trans (if_pos ⟨e1, e3⟩)) _ _ (same_up s2 np) ?_
                rw [e1]
                exact Dt.newT (fn _ (s2.free np)) np (.cons (.str _) (.cons h2 .nil))
              | [], _, e2, _, _, _ => exact absurd e2 (by simp)
              | _ :: _ :: _, _, e2, _, _, _ => exact absurd e2 (by simp only [List.length_cons]; omega)
            refine ⟨w, rfl, fun H2 s2' => ?_⟩
            have s2 := s1.trans s2'
            have hd2 := hd.same s2
            refine itd (fun e1 => ?_) (fun e1 => iteF (nomod H2 s2 fun e _ z => e1 z.1))
            refine ⟨_, rfl, N, d, v, _, rfl, hd2, hs, _, _, rfl, rfl, _, rfl, ?_⟩
            refine itd (fun e2 => ?_) (fun e2 => iteF (nomod H2 s2 fun e z _ => e2 (by rw [z]; rfl)))
            match r, hs, e2, c1, nomod with
            | [e], hs, _, c1, nomod =>
              refine ⟨_, rfl, N, d, _, 1, e, hd2, rfl, hs, rfl, fun v1 h1 => ⟨_, rfl, N, e, v1, -20, 20, rfl, h1, _, rfl, ?_⟩⟩
              refine itb (fun e3 => ?_) (fun e3 => nomod H2 s2 fun e' z z2 => by cases z; rw [e3] at z2; cases z2.2)
              obtain ⟨z, rfl, _, _⟩ := wIn_int e3
              refine ⟨_, rfl, _, rfl, N, d, _, 1, _, hd2, rfl, hs, rfl, fun v2 h2 => ⟨sz2, fun p np => ?_⟩⟩
              have c2 : chkL d = if w = "set" then some (.set z) else some (.add z) := by rw [c1]; exact if_pos ⟨e1, e3⟩
              by_cases es : w = "set"
              · refine kq (.set z) (by rw [c2, if_pos es]) _ _ (same_up s2 np) ?_
                rw [es]
                exact Dt.newT (fn _ (s2.free np)) np (.cons (.str _) (.cons h2 .nil))
              · refine kq (.add z) (by rw [c2, if_neg es]) _ _ (same_up s2 np) ?_
                rw [e1.resolve_left es]
                exact Dt.newT (fn _ (s2.free np)) np (.cons (.str _) (.cons h2 .nil))
            | [], _, e2, _, _ => exact absurd e2 (by simp)
            | _ :: _ :: _, _, e2, _, _ => exact absurd e2 (by simp only [List.length_cons]; omega)
          refine itd (fun e1 => ?_) (fun e1 => iteF (noturn fun z => e1 z.1))
          refine ⟨_, rfl, N, d, v, _, rfl, hd1, hs, _, _, rfl, rfl, _, rfl, ?_⟩
          refine itd (fun e2 => ?_) (fun e2 => noturn fun z => e2 (by rw [List.length_cons, z.2]; rfl))
          have r0 : r.length = 0 := by simp only [List.length_cons] at e2; omega
          exact ⟨(by show 1 ≤ sizeLine; decide), fun p np => kq .turn (by unfold chkL; rw [hs]; exact if_pos ⟨e1, r0⟩) _ _ (same_up s1 np) (Dt.newT (fn _ (s1.free np)) np (.cons (.str _) .nil))⟩
        | _ => exact iteT (bad rfl)
end
end K8
set_option maxRecDepth 100000
set_option maxHeartbeats 1000000
/-! P3: check_test, do_letter, passes. -/
namespace K8
open PySem PySem.Spec PyProof.Rows L2 L2H
section
variable {P : Program} {w : World} {K : PySem.W.Frag} {mg : Str → Option Value} {base : Heap}
theorem sc_test : FnScope ["test", "word"] ["test"] (defScope (top 10)) := ⟨rfl, rfl, rfl, by decide +kernel, rfl, by decide +kernel, by decide +kernel⟩
theorem ok_test {C : Addr} (B : Bn mg) (D : Dn K mg "check_test" 10 ["test"]) (W : Ok P w K mg base CX0 1 "whole_within" ["thing", "low", "high"] spWhole) (X : Ex0 P w K mg base "BadTest" C) :
    Ok P w K mg base (L2N.CX P w) 3 "check_test" ["test"] (spChk chkT Ts.enc C) := by
  refine D.okC sc_test (fun vs H Q E h => ?_) (fun f cdv A outer s H vs Q E hr h => ?_)
  · obtain ⟨N, d, v, rfl, _⟩ := h; rfl
  · obtain ⟨N, d, v, rfl, hd, fn, kq, ke⟩ := h
    have hr1 : Room 1 _ := hr.mono (by decide)
    refine ⟨_, pss_cons (ps_if (PW.pt (pw_or (pt_not (pt_sq 0 B (pv 0)))
        (pw_or (pt_cmpR eqI (pe_callB len_dt (by rfl) B.len b_len (pa_cons (pv 0) pa_nil)) pe_int (nomark _))
          (pw_or1 (pt_not (pt_val (pe_callB isi_str (by rfl) B.isi b_isi (pa_cons (pe_ix ix_dt (pv 0) pe_int (fun _ _ => rfl)) (pa_cons (n_str B) pa_nil)))))))))
        (pss_one (raise0 X rfl (roomH_of hr) (L2N.takes_of rfl rfl rfl rfl))) pss_nil)
      (pss_cons (ps_set (i := 1) sc_test.nd rfl (Or.inl rfl) (pe_ix ix_dt (pv 0) pe_int (fun _ _ => rfl)))
      (pss_cons (ps_if (PW.pt (pw_and (pt_in2 1 (pv 1)) (pw_and (pt_cmpR eqI (pe_callB len_dt (by rfl) B.len b_len (pa_cons (pv 0) pa_nil)) pe_int (nomark _))
          (pw_and1 (pt_val (pc W hr1 pass0 (pa_cons (pe_ix ix_dt (pv 0) pe_int (fun _ _ => rfl)) (pa_cons (pe_un un_neg pe_int) (pa_cons pe_int pa_nil)))))))))
        (pss_one (ps_ret (pe_tup (pa_cons (pv 1) (pa_cons (pe_ix ix_dt (pv 0) pe_int (fun _ _ => rfl)) pa_nil))))) pss_nil)
      (pss_cons (ps_if (PW.pt (pw_and (pt_cmpR eqS (pv 1) pe_str (nomark _)) (pw_and (pt_cmpR eqI (pe_callB len_dt (by rfl) B.len b_len (pa_cons (pv 0) pa_nil)) pe_int (nomark _))
          (pw_and (pt_val (pc W hr1 pass0 (pa_cons (pe_ix ix_dt (pv 0) pe_int (fun _ _ => rfl)) (pa_cons pe_int (pa_cons pe_int pa_nil)))))
            (pw_and1 (pt_val (pc W hr1 pass0 (pa_cons (pe_ix ix_dt (pv 0) pe_int (fun _ _ => rfl)) (pa_cons pe_int (pa_cons (pe_op op_sub (pe_ix ix_dt (pv 0) pe_int (fun _ _ => rfl)) pe_int) pa_nil))))))))))
        (pss_one (ps_ret (pe_tup (pa_cons (pv 1) (pa_cons (pe_ix ix_dt (pv 0) pe_int (fun _ _ => rfl)) (pa_cons (pe_ix ix_dt (pv 0) pe_int (fun _ _ => rfl)) pa_nil)))))) pss_nil)
      (pss_one (raise0 X rfl (roomH_of hr) (L2N.takes_of rfl rfl rfl rfl)))))), ?_⟩
    refine ⟨v, N, d, rfl, hd, fun H1 s1 => ?_⟩
    cases hs : seqOf d with
    | none => exact iteT (iteT (ke (by unfold chkT; rw [hs]) H1 s1))
    | some ds =>
      have hd1 := hd.same s1
      refine iteF ⟨_, rfl, N, d, v, ds, rfl, hd1, hs, _, _, rfl, rfl, _, rfl, ?_⟩
      match ds, hs with
      | [], hs => exact iteT (iteT (ke (by unfold chkT; rw [hs]) H1 s1))
      | e :: r, hs =>
        refine itno (decide_eq_false (by rw [List.length_cons]; omega)) ?_
        refine ⟨_, rfl, N, d, _, 0, e, hd1, rfl, hs, rfl, fun v0 h0 => ⟨N, e, v0, rfl, h0, _, rfl, ?_⟩⟩
        have bad : isStr e = false → E (.ref C) none H1 := fun z => ke (by unfold chkT; rw [hs]; cases e with | str w => cases z | _ => rfl) H1 s1
        cases h0 with
        | str w =>
          refine iteF ?_
          refine ⟨_, rfl, N, d, _, 0, .str w, hd1, rfl, hs, rfl, fun v1 h1 => ?_⟩
          cases h1
          have sz2 : 2 ≤ sizeLine := by show 2 ≤ sizeLine; decide
          have sz3 : 3 ≤ sizeLine := by show 3 ≤ sizeLine; decide
          have c1 : chkT d = chkTw w r := by unfold chkT; rw [hs]
          refine ⟨w, rfl, fun H2 s2' => ?_⟩
          have s2 := s1.trans s2'
          have hd2 := hd.same s2
          -- word == 'rest' and ..
          have norest : (∀ e, r = [e] → ¬ ((w = "below" ∨ w = "is") ∧ wIn e (-20) 20 = true)) → tSeq (tIfS (tAnd (tTest (tOp rEqS (tVar 1) (tC (.str "rest")))) (tAnd (tTest (tOp rEqI (tCB rLenD (tCons (tVar 0) tNil)) (tC (.int 3)))) (tAnd (tB (tCall spWhole [] E0 (tCons (tOp rIxDt (tVar 0) (tC (.int 1))) (tCons (tC (.int 1)) (tCons (tC (.int 6)) tNil)))))
                (tB (tCall spWhole [] E0 (tCons (tOp rIxDt (tVar 0) (tC (.int 2))) (tCons (tC (.int 0)) (tCons (tOp (rI0 fun i j => .int (i - j)) (tOp rIxDt (tVar 0) (tC (.int 1))) (tC (.int 1))) tNil)))))))) (tRet (tTup (tCons (tVar 1) (tCons (tOp rIxDt (tVar 0) (tC (.int 1))) (tCons (tOp rIxDt (tVar 0) (tC (.int 2))) tNil))))) tNext)
              (fun _ σ H => E (.ref C) none H) { nx := fun _ H' => Q .non H', rt := Q } [some v, some (.str w)] H2 := fun na => by
            have out : (∀ e f, r = [e, f] → chkT2 w e f = none) → E (.ref C) none H2 := fun z => by
              refine ke ?_ H2 s2
              rw [c1]
              match r, na, z with
              | [], _, _ => rfl
              | [e], na, z => exact if_neg (na e rfl)
              | [e, f], _, z => exact z e f rfl
              | _ :: _ :: _ :: _, _, _ => rfl
            refine ⟨_, rfl, _, _, rfl, rfl, _, rfl, ?_⟩
            refine itd (fun e1 => ?_) (fun e1 => iteF (out fun e f _ => if_neg fun z => e1 z.1))
            refine ⟨_, rfl, N, d, v, _, rfl, hd2, hs, _, _, rfl, rfl, _, rfl, ?_⟩
            refine itd (fun e2 => ?_) (fun e2 => iteF (out fun e f z => absurd (by rw [z]; rfl) e2))
            match r, hs, e2, c1, out with
            | [e, f], hs, _, c1, out =>
              refine ⟨_, rfl, N, d, _, 1, e, hd2, rfl, hs, rfl, fun v1 h1 => ⟨N, e, v1, 1, 6, rfl, h1, _, rfl, ?_⟩⟩
              refine itb (fun e3 => ?_) (fun e3 => iteF (out fun e' f' z => by cases z; exact if_neg fun z2 => by rw [e3] at z2; cases z2.2))
              obtain ⟨m, rfl, _, _⟩ := wIn_int e3
              refine ⟨_, rfl, N, d, _, 2, f, hd2, rfl, hs, rfl, fun v2 h2 => ⟨_, rfl, N, d, _, 1, _, hd2, rfl, hs, rfl, fun v3 h3 => ?_⟩⟩
              cases h3
              refine ⟨_, _, rfl, rfl, N, f, v2, 0, m - 1, rfl, h2, _, rfl, ?_⟩
              have c2 : chkT2 w (.int m) f = (if wIn f 0 (m - 1) = true then (match f with | .int q => some (.rest m q) | _ => none) else none) := if_pos ⟨e1, e3⟩
              refine itb (fun e4 => ?_) (fun e4 => out fun e' f' z => by cases z; rw [c2, if_neg (by rw [e4]; exact Bool.false_ne_true)])
              obtain ⟨q, rfl, _, _⟩ := wIn_int e4
              refine ⟨_, rfl, _, rfl, N, d, _, 1, _, hd2, rfl, hs, rfl, fun v4 h4 => ⟨_, rfl, N, d, _, 2, _, hd2, rfl, hs, rfl, fun v5 h5 => ⟨sz3, fun p np => ?_⟩⟩⟩
              refine kq (.rest m q) (by rw [c1]; exact c2.trans (if_pos e4)) _ _ (same_up s2 np) ?_
              rw [e1]
              exact Dt.newT (fn _ (s2.free np)) np (.cons (.str _) (.cons h4 (.cons h5 .nil)))
            | [], _, e2, _, _ => exact absurd e2 (by simp)
            | [_], _, e2, _, _ => exact absurd e2 (by simp)
            | _ :: _ :: _ :: _, _, e2, _, _ => exact absurd e2 (by simp only [List.length_cons]; omega)
          refine itd (fun e1 => ?_) (fun e1 => iteF (norest fun e _ z => e1 z.1))
          refine ⟨_, rfl, N, d, v, _, rfl, hd2, hs, _, _, rfl, rfl, _, rfl, ?_⟩
          refine itd (fun e2 => ?_) (fun e2 => iteF (norest fun e z _ => e2 (by rw [z]; rfl)))
          match r, hs, e2, c1, norest with
          | [e], hs, _, c1, norest =>
            refine ⟨_, rfl, N, d, _, 1, e, hd2, rfl, hs, rfl, fun v1 h1 => ⟨_, rfl, N, e, v1, -20, 20, rfl, h1, _, rfl, ?_⟩⟩
            refine itb (fun e3 => ?_) (fun e3 => norest fun e' z z2 => by cases z; rw [e3] at z2; cases z2.2)
            obtain ⟨z, rfl, _, _⟩ := wIn_int e3
            refine ⟨_, rfl, _, rfl, N, d, _, 1, _, hd2, rfl, hs, rfl, fun v2 h2 => ⟨sz2, fun p np => ?_⟩⟩
            have c2 : chkT d = if w = "below" then some (.below z) else some (.is z) := by rw [c1]; exact if_pos ⟨e1, e3⟩
            by_cases es : w = "below"
            · refine kq (.below z) (by rw [c2, if_pos es]) _ _ (same_up s2 np) ?_
              rw [es]
              exact Dt.newT (fn _ (s2.free np)) np (.cons (.str _) (.cons h2 .nil))
            · refine kq (.is z) (by rw [c2, if_neg es]) _ _ (same_up s2 np) ?_
              rw [e1.resolve_left es]
              exact Dt.newT (fn _ (s2.free np)) np (.cons (.str _) (.cons h2 .nil))
          | [], _, e2, _, _ => exact absurd e2 (by simp)
          | _ :: _ :: _, _, e2, _, _ => exact absurd e2 (by simp only [List.length_cons]; omega)
        | _ => exact iteT (bad rfl)

/-! ### what letters and tests do -/
def Lt.ok : Lt → Prop
  | .mod m => 0 < m
  | _ => True
def Ts.ok : Ts → Prop
  | .rest m r => 0 < m ∧ 0 ≤ r ∧ r < m
  | _ => True
def Mv.ok : Mv → Prop
  | .stay => True
  | .deed l => l.ok
  | .so t => t.ok
  | .nt t => t.ok
def Lt.run (n : Int) : Lt → Int
  | .set v => v
  | .add k => n + k
  | .turn => -n
  | .mod m => n % m
def Ts.pass (n : Int) : Ts → Bool
  | .below k => decide (n < k)
  | .is k => decide (n = k)
  | .rest m r => decide (n % m = r)
def Mv.run (n : Int) : Mv → Option Int
  | .stay => some n
  | .deed l => some (l.run n)
  | .so t => if t.pass n then some n else none
  | .nt t => if t.pass n then none else some n
def oV : Option Int → V
  | some n => .int n
  | none => .non
def spDoL : Sp := fun vs H Q _ => ∃ (N : Addr → Prop) (l : Lt) (v : V) (n : Int), vs = [v, .int n] ∧ Dt N H l.enc v ∧ l.ok ∧ Q (.int (l.run n)) H
theorem sc_do : FnScope ["letter", "number"] ["letter", "number"] (defScope (top 11)) := ⟨rfl, rfl, rfl, by decide +kernel, rfl, by decide +kernel, by decide +kernel⟩
theorem ne_st {a b : Str} (h : decide (a = b) = false) : ¬ a = b := of_decide_eq_false h
theorem ok_doL (B : Bn mg) (D : Dn K mg "do_letter" 11 ["letter", "number"]) : Ok P w K mg base CX0 1 "do_letter" ["letter", "number"] spDoL := by
  refine D.ok sc_do (fun vs H Q E h => ?_) (fun f cdv A outer s H vs Q E hr h => ?_)
  · obtain ⟨N, l, v, n, rfl, _⟩ := h; rfl
  · obtain ⟨N, l, v, n, rfl, hd, hok, k⟩ := h
    refine ⟨_, pss_cons (ps_if (pt_cmpR eqS (pe_ix ix_dt (pv 0) pe_int (fun _ _ => rfl)) pe_str (nomark _)) (pss_one (ps_ret (pe_ix ix_dt (pv 0) pe_int (fun _ _ => rfl)))) pss_nil)
      (pss_cons (ps_if (pt_cmpR eqS (pe_ix ix_dt (pv 0) pe_int (fun _ _ => rfl)) pe_str (nomark _)) (pss_one (ps_ret (pe_op op_add (pv 1) (pe_ix ix_dt (pv 0) pe_int (fun _ _ => rfl))))) pss_nil)
      (pss_cons (ps_if (pt_cmpR eqS (pe_ix ix_dt (pv 0) pe_int (fun _ _ => rfl)) pe_str (nomark _)) (pss_one (ps_ret (pe_un un_neg (pv 1)))) pss_nil)
      (pss_one (ps_ret (pe_op op_mod (pe_callTy call_int1 (by rfl) B.int b_int (pa_cons (pv 1) pa_nil)) (pe_ix ix_dt (pv 0) pe_int (fun _ _ => rfl))))))), ?_⟩
    cases l with
    | set z =>
      refine ⟨_, rfl, N, _, _, 0, _, hd, rfl, rfl, rfl, fun v1 h1 => ?_⟩
      cases h1
      refine ⟨_, _, rfl, rfl, _, rfl, iteT ⟨_, rfl, N, _, _, 1, _, hd, rfl, rfl, rfl, fun v2 h2 => ?_⟩⟩
      cases h2
      exact k
    | add z =>
      refine ⟨_, rfl, N, _, _, 0, _, hd, rfl, rfl, rfl, fun v1 h1 => ?_⟩
      cases h1
      refine ⟨_, _, rfl, rfl, _, rfl, itno (by decide +kernel) ⟨_, rfl, N, _, _, 0, _, hd, rfl, rfl, rfl, fun v1 h1 => ?_⟩⟩
      cases h1
      refine ⟨_, _, rfl, rfl, _, rfl, iteT ⟨_, rfl, _, rfl, N, _, _, 1, _, hd, rfl, rfl, rfl, fun v2 h2 => ?_⟩⟩
      cases h2
      exact ⟨_, _, rfl, rfl, k⟩
    | turn =>
      refine ⟨_, rfl, N, _, _, 0, _, hd, rfl, rfl, rfl, fun v1 h1 => ?_⟩
      cases h1
      refine ⟨_, _, rfl, rfl, _, rfl, itno (by decide +kernel) ⟨_, rfl, N, _, _, 0, _, hd, rfl, rfl, rfl, fun v1 h1 => ?_⟩⟩
      cases h1
      refine ⟨_, _, rfl, rfl, _, rfl, itno (by decide +kernel) ⟨_, rfl, N, _, _, 0, _, hd, rfl, rfl, rfl, fun v1 h1 => ?_⟩⟩
      cases h1
      exact ⟨_, _, rfl, rfl, _, rfl, iteT ⟨_, rfl, _, rfl, k⟩⟩
    | mod m =>
      refine ⟨_, rfl, N, _, _, 0, _, hd, rfl, rfl, rfl, fun v1 h1 => ?_⟩
      cases h1
      refine ⟨_, _, rfl, rfl, _, rfl, itno (by decide +kernel) ⟨_, rfl, N, _, _, 0, _, hd, rfl, rfl, rfl, fun v1 h1 => ?_⟩⟩
      cases h1
      refine ⟨_, _, rfl, rfl, _, rfl, itno (by decide +kernel) ⟨_, rfl, N, _, _, 0, _, hd, rfl, rfl, rfl, fun v1 h1 => ?_⟩⟩
      cases h1
      refine ⟨_, _, rfl, rfl, _, rfl, itno (by decide +kernel) ⟨_, rfl, .inl ⟨_, rfl, _, rfl, N, _, _, 1, _, hd, rfl, rfl, rfl, fun v2 h2 => ?_⟩⟩⟩
      cases h2
      exact ⟨_, _, rfl, rfl, hok, k⟩
def spPass : Sp := fun vs H Q _ => ∃ (N : Addr → Prop) (t : Ts) (v : V) (n : Int), vs = [v, .int n] ∧ Dt N H t.enc v ∧ t.ok ∧ Q (.bl (t.pass n)) H
theorem sc_pass : FnScope ["test", "number"] ["test", "number"] (defScope (top 12)) := ⟨rfl, rfl, rfl, by decide +kernel, rfl, by decide +kernel, by decide +kernel⟩
theorem ok_pass (B : Bn mg) (D : Dn K mg "passes" 12 ["test", "number"]) : Ok P w K mg base CX0 1 "passes" ["test", "number"] spPass := by
  refine D.ok sc_pass (fun vs H Q E h => ?_) (fun f cdv A outer s H vs Q E hr h => ?_)
  · obtain ⟨N, l, v, n, rfl, _⟩ := h; rfl
  · obtain ⟨N, l, v, n, rfl, hd, hok, k⟩ := h
    refine ⟨_, pss_cons (ps_if (pt_cmpR eqS (pe_ix ix_dt (pv 0) pe_int (fun _ _ => rfl)) pe_str (nomark _)) (pss_one (ps_ret (pe_cmpR op_lt (pv 1) (pe_ix ix_dt (pv 0) pe_int (fun _ _ => rfl)) (nomark _)))) pss_nil)
      (pss_cons (ps_if (pt_cmpR eqS (pe_ix ix_dt (pv 0) pe_int (fun _ _ => rfl)) pe_str (nomark _)) (pss_one (ps_ret (pe_cmpR eqI (pv 1) (pe_ix ix_dt (pv 0) pe_int (fun _ _ => rfl)) (nomark _)))) pss_nil)
      (pss_one (ps_ret (pe_cmpR eqI (pe_op op_mod (pe_callTy call_int1 (by rfl) B.int b_int (pa_cons (pv 1) pa_nil)) (pe_ix ix_dt (pv 0) pe_int (fun _ _ => rfl))) (pe_ix ix_dt (pv 0) pe_int (fun _ _ => rfl)) (nomark _))))), ?_⟩
    cases l with
    | below z =>
      refine ⟨_, rfl, N, _, _, 0, _, hd, rfl, rfl, rfl, fun v1 h1 => ?_⟩
      cases h1
      refine ⟨_, _, rfl, rfl, _, rfl, iteT ⟨_, rfl, _, rfl, N, _, _, 1, _, hd, rfl, rfl, rfl, fun v2 h2 => ?_⟩⟩
      cases h2
      exact ⟨_, _, rfl, rfl, k⟩
    | is z =>
      refine ⟨_, rfl, N, _, _, 0, _, hd, rfl, rfl, rfl, fun v1 h1 => ?_⟩
      cases h1
      refine ⟨_, _, rfl, rfl, _, rfl, itno (by decide +kernel) ⟨_, rfl, N, _, _, 0, _, hd, rfl, rfl, rfl, fun v1 h1 => ?_⟩⟩
      cases h1
      refine ⟨_, _, rfl, rfl, _, rfl, iteT ⟨_, rfl, _, rfl, N, _, _, 1, _, hd, rfl, rfl, rfl, fun v2 h2 => ?_⟩⟩
      cases h2
      exact ⟨_, _, rfl, rfl, k⟩
    | rest m r =>
      refine ⟨_, rfl, N, _, _, 0, _, hd, rfl, rfl, rfl, fun v1 h1 => ?_⟩
      cases h1
      refine ⟨_, _, rfl, rfl, _, rfl, itno (by decide +kernel) ⟨_, rfl, N, _, _, 0, _, hd, rfl, rfl, rfl, fun v1 h1 => ?_⟩⟩
      cases h1
      refine ⟨_, _, rfl, rfl, _, rfl, itno (by decide +kernel) ⟨_, rfl, .inl ⟨_, rfl, _, rfl, N, _, _, 1, _, hd, rfl, rfl, rfl, fun v2 h2 => ?_⟩⟩⟩
      cases h2
      refine ⟨_, _, rfl, rfl, hok.1, _, rfl, N, _, _, 2, _, hd, rfl, rfl, rfl, fun v3 h3 => ?_⟩
      cases h3
      exact ⟨_, _, rfl, rfl, k⟩
end
end K8
set_option maxRecDepth 100000
set_option maxHeartbeats 1000000
/-! P4: check_move, move_number. -/
namespace K8
open PySem PySem.Spec PyProof.Rows L2 L2H
section
variable {X : Cx} {CX : CXT} {k : Nat} {x : Str} {ps : List Str} {sp : Sp} {E : L2.St → XK} {p pos : Pos} {e : Expr} {es : List Expr} {t : TA}
theorem pcS (F : Ok X.prog X.w X.K X.mg X.base CX k x ps sp) (hr : Room k X.A) (hx : ∀ σ, PassesAt CX X σ (E σ)) (ha : PA X (e :: es) t) (hg : Gl X x := by rfl) (hdb : (x == ("__debug__" : Str)) = false := by decide)
    (he : starEach (e :: es) X.env = (false, eval e X.env) :: starEach es X.env := by rfl) (hpl : (backTo pos (starEach es X.env)).any (·.1) = false := by rfl) : PE X (.Call (.Name x p) (e :: es) [] pos) (tCallS sp E t) := by
  obtain ⟨f, fd, F, hm, hk, b⟩ := F
  exact pe_callS F hr hg hm hk b hx ha hdb he hpl
end
/-- what check_move makes of a datum -/
def chkMo (w : Str) (r : List PyData) : Option Mv := match r with
  | [e] => if w = "deed" then (chkL e).map .deed else if w = "so" then (chkT e).map .so else if w = "not" then (chkT e).map .nt else none
  | _ => none
def chkMw (w : Str) (r : List PyData) : Option Mv := if w = "stay" ∧ r.length = 0 then some .stay else chkMo w r
def chkM (d : PyData) : Option Mv := match seqOf d with
  | some (.str w :: r) => chkMw w r
  | _ => none
/-- what the clauses match -/
structure Exm (K : PySem.W.Frag) (CL CT CM CB : Addr) : Prop where
  LL : PySem.W.exmAny K (.ref CL) [.ref CL, .ref CT] = some true
  TT : PySem.W.exmAny K (.ref CT) [.ref CL, .ref CT] = some true
  MM : PySem.W.exmOne K (.ref CM) (.ref CM) = some true
  BB : PySem.W.exmOne K (.ref CB) (.ref CB) = some true
section
variable {P : Program} {w : World} {K : PySem.W.Frag} {mg : Str → Option Value} {base : Heap}
theorem sc_move : FnScope ["move"] ["move"] (defScope (top 14)) := ⟨rfl, rfl, rfl, by decide +kernel, rfl, by decide +kernel, by decide +kernel⟩
theorem Ex0.g {x : Str} {C : Addr} (X : Ex0 P w K mg base x C) : mg x = some (.ref C) := by obtain ⟨_, _, _, _, _, _, _, h⟩ := X; exact h
theorem ok_move {CL CT CM CB : Addr} (B : Bn mg) (D : Dn K mg "check_move" 14 ["move"]) (XL : Ex0 P w K mg base "BadLetter" CL) (XT : Ex0 P w K mg base "BadTest" CT) (XM : Ex0 P w K mg base "BadMove" CM) (M : Exm K CL CT CM CB)
    (FL : Ok P w K mg base (L2N.CX P w) 3 "check_letter" ["letter"] (spChk chkL Lt.enc CL)) (FT : Ok P w K mg base (L2N.CX P w) 3 "check_test" ["test"] (spChk chkT Ts.enc CT)) :
    Ok P w K mg base (CXk 1 P w) 4 "check_move" ["move"] (spChk chkM Mv.enc CM) := by
  refine D.okC sc_move (fun vs H Q E h => ?_) (fun f cdv A outer s H vs Q E hr h => ?_)
  · obtain ⟨N, d, v, rfl, _⟩ := h; rfl
  · obtain ⟨N, d, v, rfl, hd, fn, kq, ke⟩ := h
    refine ⟨_, pss_cons (ps_if (PW.pt (pw_or (pt_not (pt_sq 0 B (pv 0)))
        (pw_or (pt_cmpR eqI (pe_callB len_dt (by rfl) B.len b_len (pa_cons (pv 0) pa_nil)) pe_int (nomark _))
          (pw_or1 (pt_not (pt_val (pe_callB isi_str (by rfl) B.isi b_isi (pa_cons (pe_ix ix_dt (pv 0) pe_int (fun _ _ => rfl)) (pa_cons (n_str B) pa_nil)))))))))
        (pss_one (raise0 XM rfl (roomH_of (hr.mono (by decide))) (takesK_of (n := 1) rfl rfl rfl rfl).n)) pss_nil)
      (pss_cons (ps_if (PW.pt (pw_and (pt_cmpR eqS (pe_ix ix_dt (pv 0) pe_int (fun _ _ => rfl)) pe_str (nomark _)) (pw_and1 (pt_cmpR eqI (pe_callB len_dt (by rfl) B.len b_len (pa_cons (pv 0) pa_nil)) pe_int (nomark _)))))
        (pss_one (ps_ret (pe_tup (pa_cons pe_str pa_nil)))) pss_nil)
      (pss_cons (ps_if (PW.pt (pw_or (pt_cmpR neI (pe_callB len_dt (by rfl) B.len b_len (pa_cons (pv 0) pa_nil)) pe_int (nomark _))
          (pw_or1 (pt_cmpR niSs (pe_ix ix_dt (pv 0) pe_int (fun _ _ => rfl)) (pe_tup (pa_cons pe_str (pa_cons pe_str (pa_cons pe_str pa_nil)))) rfl))))
        (pss_one (raise0 XM rfl (roomH_of (hr.mono (by decide))) (takesK_of (n := 1) rfl rfl rfl rfl).n)) pss_nil)
      (pss_one (ps_try_re (n := 0) (m := fun cls => PySem.W.exmAny K cls [.ref CL, .ref CT]) (Wout := fun cls d _ H => E cls d H) (te := fun _ H Q => Q (.ref CM) none H) (Nat.zero_le _) rfl rfl (testX_two (by rfl) XL.g (by rfl) XT.g) (passesAt_of rfl) (takesK_of (n := 1) rfl rfl rfl rfl)
        (fun W pn xe tk hp => pss_cons (ps_if (pt_cmpR eqS (pe_ix ix_dt (pv 0) pe_int (fun _ _ => rfl)) pe_str (nomark _))
            (pss_one (ps_ret (pe_tup (pa_cons pe_str (pa_cons (pcS FL hr (fun σ => L2N.passAt tk.n σ) (pa_cons (pe_ix ix_dt (pv 0) pe_int (fun _ _ => rfl)) pa_nil)) pa_nil))))) pss_nil)
          (pss_one (ps_ret (pe_tup (pa_cons (pe_ix ix_dt (pv 0) pe_int (fun _ _ => rfl)) (pa_cons (pcS FT hr (fun σ => L2N.passAt tk.n σ) (pa_cons (pe_ix ix_dt (pv 0) pe_int (fun _ _ => rfl)) pa_nil)) pa_nil))))))
        (fun a pn => mk0 XM (roomH_mark (hr.mono (by decide)) _)))))), ?_⟩
    have sz2 : 2 ≤ sizeLine := by show 2 ≤ sizeLine; decide
    have sz3 : 3 ≤ sizeLine := by show 3 ≤ sizeLine; decide
    refine ⟨v, N, d, rfl, hd, fun H1 s1 => ?_⟩
    cases hs : seqOf d with
    | none => exact iteT (iteT (ke (by unfold chkM; rw [hs]) H1 s1))
    | some ds =>
      have hd1 := hd.same s1
      refine iteF ⟨_, rfl, N, d, v, ds, rfl, hd1, hs, _, _, rfl, rfl, _, rfl, ?_⟩
      match ds, hs with
      | [], hs => exact iteT (iteT (ke (by unfold chkM; rw [hs]) H1 s1))
      | e :: r, hs =>
        refine itno (decide_eq_false (by rw [List.length_cons]; omega)) ?_
        refine ⟨_, rfl, N, d, _, 0, e, hd1, rfl, hs, rfl, fun v0 h0 => ⟨N, e, v0, rfl, h0, _, rfl, ?_⟩⟩
        have bad : isStr e = false → E (.ref CM) none H1 := fun z => ke (by unfold chkM; rw [hs]; cases e with | str w => cases z | _ => rfl) H1 s1
        cases h0 with
        | str w =>
          have c0 : chkM d = chkMw w r := by unfold chkM; rw [hs]
          refine iteF ?_
          -- move[0] == 'stay' and len(move) == 1
          refine ⟨_, rfl, N, d, _, 0, .str w, hd1, rfl, hs, rfl, fun v1 h1 => ?_⟩
          cases h1
          refine ⟨_, _, rfl, rfl, _, rfl, ?_⟩
          have nostay : ¬ (w = "stay" ∧ r.length = 0) → tSeq (tIfS (tOr (tTest (tOp rNeI (tCB rLenD (tCons (tVar 0) tNil)) (tC (.int 2)))) (tTest (tOp rNiSs (tOp rIxDt (tVar 0) (tC (.int 0))) (tTup (tCons (tC (.str "deed")) (tCons (tC (.str "so")) (tCons (tC (.str "not")) tNil))))))) (fun _ _ H => E (.ref CM) none H) tNext)
              (fun D σ H => (fun W => tSeq (tIfS (tTest (tOp rEqS (tOp rIxDt (tVar 0) (tC (.int 0))) (tC (.str "deed")))) (tRet (tTup (tCons (tC (.str "deed")) (tCons (tCallS (spChk chkL Lt.enc CL) (WE W) (tCons (tOp rIxDt (tVar 0) (tC (.int 1))) tNil)) tNil)))) tNext)
                (tRet (tTup (tCons (tOp rIxDt (tVar 0) (tC (.int 0))) (tCons (tCallS (spChk chkT Ts.enc CT) (WE W) (tCons (tOp rIxDt (tVar 0) (tC (.int 1))) tNil)) tNil)))))
                (fun cls _ σ' H' => PySem.W.exmAny K cls [.ref CL, .ref CT] = some true ∧ E (.ref CM) none H') D σ H) { nx := fun _ H' => Q .non H', rt := Q } [some v] H1 := fun nt => by
            have c1 : chkM d = chkMo w r := by rw [c0]; exact if_neg nt
            refine ⟨_, rfl, N, d, v, _, rfl, hd1, hs, _, _, rfl, rfl, _, rfl, ?_⟩
            refine itn (fun e2 => iteT (ke ?_ H1 s1)) (fun e2 => ?_)
            · rw [c1]
              match r, e2 with
              | [], _ => rfl
              | [e], e2 => exact absurd rfl e2
              | _ :: _ :: _, _ => rfl
            match r, hs, e2, c1 with
            | [], _, e2, _ => exact absurd e2 (by simp)
            | _ :: _ :: _, _, e2, _ => exact absurd e2 (by simp only [List.length_cons]; omega)
            | [e], hs, _, c1 =>
              refine ⟨_, rfl, N, d, _, 0, .str w, hd1, rfl, hs, rfl, fun v1 h1 => ?_⟩
              cases h1
              refine ⟨sz3, fun q nq => ⟨w, q, ["deed", "so", "not"], rfl, rfl, .inl upd_same, _, rfl, ?_⟩⟩
              have s2 := same_up (o := .tup [.str "deed", .str "so", .str "not"]) s1 nq
              have hd2 := hd.same s2
              refine itn (fun e3 => ke ?_ _ s2) (fun e3 => ?_)
              · rw [c1]
                show (if w = "deed" then _ else if w = "so" then _ else if w = "not" then _ else none) = none
                rw [if_neg fun z => e3 (by rw [z]; simp), if_neg fun z => e3 (by rw [z]; simp), if_neg fun z => e3 (by rw [z]; simp)]
              refine ⟨_, rfl, N, d, _, 0, .str w, hd2, rfl, hs, rfl, fun v1 h1 => ?_⟩
              cases h1
              refine ⟨_, _, rfl, rfl, _, rfl, itd (fun e4 => ?_) (fun e4 => ?_)⟩
              · refine ⟨_, rfl, N, d, _, 1, e, hd2, rfl, hs, rfl, fun v2 h2 => ⟨N, e, v2, rfl, h2, fn.same s2, fun l hl p H3 s3 hp => ⟨sz2, fun q2 nq2 => ?_⟩, fun hn H3 s3 => ⟨M.LL, ke ?_ _ (s2.trans s3)⟩⟩⟩
                · refine kq (.deed l) ?_ _ _ (same_up (s2.trans s3) nq2) (Dt.newT (fn _ ((s2.trans s3).free nq2)) nq2 (.cons (.str _) (.cons hp .nil)))
                  rw [c1]; exact (if_pos e4).trans (by rw [hl]; rfl)
                · rw [c1]; exact (if_pos e4).trans (by rw [hn]; rfl)
              · have e5 : w = "so" ∨ w = "not" := by simpa [e4] using e3
                refine ⟨_, rfl, N, d, _, 0, .str w, hd2, rfl, hs, rfl, fun v1 h1 => ?_⟩
                cases h1
                refine ⟨_, rfl, N, d, _, 1, e, hd2, rfl, hs, rfl, fun v2 h2 => ⟨N, e, v2, rfl, h2, fn.same s2, fun l hl p H3 s3 hp => ⟨sz2, fun q2 nq2 => ?_⟩, fun hn H3 s3 => ⟨M.TT, ke ?_ _ (s2.trans s3)⟩⟩⟩
                · by_cases es : w = "so"
                  · refine kq (.so l) ?_ _ _ (same_up (s2.trans s3) nq2) (by rw [es]; exact Dt.newT (fn _ ((s2.trans s3).free nq2)) nq2 (.cons (.str _) (.cons hp .nil)))
                    rw [c1]; exact (if_neg e4).trans ((if_pos es).trans (by rw [hl]; rfl))
                  · refine kq (.nt l) ?_ _ _ (same_up (s2.trans s3) nq2) (by rw [e5.resolve_left es]; exact Dt.newT (fn _ ((s2.trans s3).free nq2)) nq2 (.cons (.str _) (.cons hp .nil)))
                    rw [c1]; exact (if_neg e4).trans ((if_neg es).trans ((if_pos (e5.resolve_left es)).trans (by rw [hl]; rfl)))
                · rw [c1]
                  by_cases es : w = "so"
                  · exact (if_neg e4).trans ((if_pos es).trans (by rw [hn]; rfl))
                  · exact (if_neg e4).trans ((if_neg es).trans ((if_pos (e5.resolve_left es)).trans (by rw [hn]; rfl)))
          refine itd (fun e1 => ?_) (fun e1 => iteF (nostay fun z => e1 z.1))
          refine ⟨_, rfl, N, d, v, _, rfl, hd1, hs, _, _, rfl, rfl, _, rfl, ?_⟩
          refine itd (fun e2 => ?_) (fun e2 => nostay fun z => e2 (by rw [List.length_cons, z.2]; rfl))
          have r0 : r.length = 0 := by simp only [List.length_cons] at e2; omega
          exact ⟨(by show 1 ≤ sizeLine; decide), fun p np => kq .stay (by rw [c0]; exact if_pos ⟨e1, r0⟩) _ _ (same_up s1 np) (Dt.newT (fn _ (s1.free np)) np (.cons (.str _) .nil))⟩
        | _ => exact iteT (bad rfl)
def spMv : Sp := fun vs H Q _ => ∃ (N : Addr → Prop) (m : Mv) (v : V) (n : Int), vs = [v, .int n] ∧ Dt N H m.enc v ∧ m.ok ∧ Q (oV (m.run n)) H
theorem sc_mvn : FnScope ["move", "number"] ["move", "number"] (defScope (top 15)) := ⟨rfl, rfl, rfl, by decide +kernel, rfl, by decide +kernel, by decide +kernel⟩
theorem ok_mvn (B : Bn mg) (D : Dn K mg "move_number" 15 ["move", "number"]) (FL : Ok P w K mg base CX0 1 "do_letter" ["letter", "number"] spDoL) (FT : Ok P w K mg base CX0 1 "passes" ["test", "number"] spPass) :
    Ok P w K mg base CX0 2 "move_number" ["move", "number"] spMv := by
  refine D.ok sc_mvn (fun vs H Q E h => ?_) (fun f cdv A outer s H vs Q E hr h => ?_)
  · obtain ⟨N, l, v, n, rfl, _⟩ := h; rfl
  · obtain ⟨N, m, v, n, rfl, hd, hok, k⟩ := h
    refine ⟨_, pss_cons (ps_if (pt_cmpR eqS (pe_ix ix_dt (pv 0) pe_int (fun _ _ => rfl)) pe_str (nomark _)) (pss_one (ps_ret (pv 1))) pss_nil)
      (pss_cons (ps_if (pt_cmpR eqS (pe_ix ix_dt (pv 0) pe_int (fun _ _ => rfl)) pe_str (nomark _)) (pss_one (ps_ret (pc FL hr pass0 (pa_cons (pe_ix ix_dt (pv 0) pe_int (fun _ _ => rfl)) (pa_cons (pv 1) pa_nil))))) pss_nil)
      (pss_one (ps_ret (pe_ifExp (pt_cmpR eqB (pc FT hr pass0 (pa_cons (pe_ix ix_dt (pv 0) pe_int (fun _ _ => rfl)) (pa_cons (pv 1) pa_nil))) (pe_cmpR eqS (pe_ix ix_dt (pv 0) pe_int (fun _ _ => rfl)) pe_str (nomark _)) (nomark _)) (pv 1) pe_non)))), ?_⟩
    cases m with
    | stay =>
      refine ⟨_, rfl, N, _, _, 0, _, hd, rfl, rfl, rfl, fun v1 h1 => ?_⟩
      cases h1
      exact ⟨_, _, rfl, rfl, _, rfl, iteT ⟨_, rfl, k⟩⟩
    | deed l =>
      refine ⟨_, rfl, N, _, _, 0, _, hd, rfl, rfl, rfl, fun v1 h1 => ?_⟩
      cases h1
      refine ⟨_, _, rfl, rfl, _, rfl, itno (by decide +kernel) ⟨_, rfl, N, _, _, 0, _, hd, rfl, rfl, rfl, fun v1 h1 => ?_⟩⟩
      cases h1
      exact ⟨_, _, rfl, rfl, _, rfl, iteT ⟨_, rfl, N, _, _, 1, _, hd, rfl, rfl, rfl, fun v2 h2 => ⟨_, rfl, N, l, v2, n, rfl, h2, hok, k⟩⟩⟩
    | so t =>
      refine ⟨_, rfl, N, _, _, 0, _, hd, rfl, rfl, rfl, fun v1 h1 => ?_⟩
      cases h1
      refine ⟨_, _, rfl, rfl, _, rfl, itno (by decide +kernel) ⟨_, rfl, N, _, _, 0, _, hd, rfl, rfl, rfl, fun v1 h1 => ?_⟩⟩
      cases h1
      refine ⟨_, _, rfl, rfl, _, rfl, itno (by decide +kernel) ⟨_, rfl, N, _, _, 1, _, hd, rfl, rfl, rfl, fun v2 h2 => ⟨_, rfl, N, t, v2, n, rfl, h2, hok, ?_⟩⟩⟩
      refine ⟨_, rfl, N, _, _, 0, _, hd, rfl, rfl, rfl, fun v3 h3 => ?_⟩
      cases h3
      refine ⟨_, _, rfl, rfl, _, _, rfl, rfl, _, rfl, ?_⟩
      have e : (t.pass n == decide (Str.ofString "so" = Str.ofString "so")) = t.pass n := by rw [decide_eq_true rfl]; simp
      rw [e]
      have kk : Q (oV (if t.pass n then some n else none)) H := k
      refine itb (fun c => ⟨_, rfl, ?_⟩) (fun c => ?_)
      · rw [if_pos c] at kk; exact kk
      · rw [if_neg (by rw [c]; exact Bool.false_ne_true)] at kk; exact kk
    | nt t =>
      refine ⟨_, rfl, N, _, _, 0, _, hd, rfl, rfl, rfl, fun v1 h1 => ?_⟩
      cases h1
      refine ⟨_, _, rfl, rfl, _, rfl, itno (by decide +kernel) ⟨_, rfl, N, _, _, 0, _, hd, rfl, rfl, rfl, fun v1 h1 => ?_⟩⟩
      cases h1
      refine ⟨_, _, rfl, rfl, _, rfl, itno (by decide +kernel) ⟨_, rfl, N, _, _, 1, _, hd, rfl, rfl, rfl, fun v2 h2 => ⟨_, rfl, N, t, v2, n, rfl, h2, hok, ?_⟩⟩⟩
      refine ⟨_, rfl, N, _, _, 0, _, hd, rfl, rfl, rfl, fun v3 h3 => ?_⟩
      cases h3
      refine ⟨_, _, rfl, rfl, _, _, rfl, rfl, _, rfl, ?_⟩
      have e : (t.pass n == decide (Str.ofString "not" = Str.ofString "so")) = !t.pass n := by rw [show decide (Str.ofString "not" = Str.ofString "so") = false by decide +kernel]; simp
      rw [e]
      have kk : Q (oV (if t.pass n then none else some n)) H := k
      refine itnb (fun c => ⟨_, rfl, ?_⟩) (fun c => ?_)
      · rw [if_neg (by rw [c]; exact Bool.false_ne_true)] at kk; exact kk
      · rw [if_pos c] at kk; exact kk
end
end K8
set_option maxRecDepth 100000
set_option maxHeartbeats 1000000
/-! Kn: enumerate over a list or a tuple of data; walks over data. -/
namespace K8
open PySem PySem.Spec PyProof.Rows L2 L2H

theorem turn_imp {P : Program} {w : World} {K : PySem.W.Frag} {tg : Expr} {J J' : It} {fp : List Addr} {it : Addr} {tn : Nat → Heap → Prop} (T : Turn P w K tg J fp it tn)
    (hg : ∀ i H, J'.go i H → J.go i H ∧ ∀ x H', J.yld i H x H' → J'.yld i H x H') (hs : ∀ i H, J'.stop i H → J.stop i H) : Turn P w K tg J' fp it tn where
  mem := T.mem
  obj := T.obj
  keep := T.keep
  item := fun X a b c d i pins s σ H E I hf st g => thn (T.item X a b c d i pins s σ H E I hf st (hg i H g).1) fun r s1 ⟨u, e, h⟩ => ⟨u, e, thn h fun _ s2 ⟨x, H', I2, r2, y, t, n⟩ => ⟨x, H', I2, r2, (hg i H g).2 x H' y, t, n⟩⟩
  done := fun X a b c d i pins s σ H E I hf st g => T.done X a b c d i pins s σ H E I hf st (hs i H g)
  self := T.self

theorem meets_enumerate_newT (t : Addr) (items : Array Value) :
    Meets (Builtin.«enumerate.__new__» ⟨[.type "enumerate", .ref t], []⟩) (fun _ R s => s.heap.IsTuple t items ∧
      R (.ok (.ret (.ref (s.heap.push { cls := .type "tuple_iterator", data := .fields #[.ref t, .int 0 0] }).objs.size)))
        { s with heap := (s.heap.push { cls := .type "tuple_iterator", data := .fields #[.ref t, .int 0 0] }).push { cls := .type "enumerate", data := .fields #[.none, .bool false, .ref s.heap.objs.size, rawInt 0, .none, .none] } }) :=
  .of_wp fun prog w A R s h => by
    obtain ⟨hp, g, d, tk, os⟩ := s; obtain ⟨h1, h⟩ := h
    have hsub := sub_enumerate
    have q1 : ∀ {A' : Around} {E : Value → Shared → Prop} {Q : Value → Shared → Prop}, Q (.ref hp.objs.size) ⟨hp.push { cls := .type "tuple_iterator", data := .fields #[.ref t, .int 0 0] }, g, d, tk, os⟩ → wpAny (model prog w) A' (pyIter (.ref t)) Q E ⟨hp, g, d, tk, os⟩ :=
      fun q => (begins_tuple t items).iter prog w _ _ ⟨hp, g, d, tk, os⟩ _ h1 q
    wp_walk using q1
    refine wpAny_stack_any fun st => wpAny_pure ?_
    split
    · rename_i c _ _ _ _ _
      cases (c == Value.type "enumerate")
      · wp_walk using q1
        exact ⟨_, rfl, h⟩
      · wp_walk using q1
        exact ⟨_, rfl, h⟩
    · wp_walk using q1
      exact ⟨_, rfl, h⟩
theorem call_enumerate_tuple {prog : Program} {w : World} {A : Around} {E : Value → Shared → Prop} {s : Shared} {l : Addr} {items : Array Value} {Q : Value → Shared → Prop} (hL : s.heap.IsTuple l items)
    (h : ∀ h', IsEnum h' (s.heap.objs.size + 1) s.heap.objs.size 0 .none → h'.IsTupleIter s.heap.objs.size l 0 → h'.objs.size = s.heap.objs.size + 2 →
      (∀ b o, s.heap.get? b = some o → h'.get? b = some o) → Q (.ref (s.heap.objs.size + 1)) { s with heap := h' }) :
    wpAny (model prog w) A (call (.type "enumerate") [.ref l]) Q E s := by
  refine callType_new F.called_enumerate (by decide) (F.typeCall_enumerate_1 _) (F.newCall_enumerate_1 _) (fun obj => F.args_object_init_2 obj _) F.entry_enumerate_new
    (meets_enumerate_newT l items) ⟨hL, ?_⟩
  have hz : (s.heap.push { cls := .type "tuple_iterator", data := .fields #[.ref l, .int 0 0] }).objs.size = s.heap.objs.size + 1 := Heap.size_push ..
  show _ ∧ _
  rw [hz]
  have he : IsEnum ((s.heap.push { cls := .type "tuple_iterator", data := .fields #[.ref l, .int 0 0] }).push
      { cls := .type "enumerate", data := .fields #[.none, .bool false, .ref s.heap.objs.size, rawInt 0, .none, .none] }) (s.heap.objs.size + 1) s.heap.objs.size 0 .none := by
    have := Heap.get?_push_size (s.heap.push { cls := .type "tuple_iterator", data := .fields #[.ref l, .int 0 0] })
      (o := { cls := .type "enumerate", data := .fields #[.none, .bool false, .ref s.heap.objs.size, rawInt 0, .none, .none] }) rfl
    rw [hz] at this; exact this
  refine ⟨⟨_, he, rfl⟩, h _ he ⟨_, Heap.get?_push_of_some _ (Heap.get?_push_size _ rfl), rfl, rfl⟩ (by rw [Heap.size_push, hz]) fun b o x => Heap.get?_push_of_some _ (Heap.get?_push_of_some _ x)⟩

theorem pyNext_enumT_end {prog : Program} {w : World} {A : Around} {E : Value → Shared → Prop} {s : Shared} {e it l : Addr} {i : Nat} {items : Array Value} {old : Value} {Q : Option Value → Shared → Prop} (hh : A.handled = none)
    (he : IsEnum s.heap e it i old) (hit : s.heap.IsTupleIter it l i) (hl : s.heap.IsTuple l items) (hx : items[i]? = none)
    (hQ : ∀ h', Heap.ExtBut it s.heap h' → Q none { s with heap := h' }) : wpAny (model prog w) A (pyNext (.ref e)) Q E s := by
  have hT : s.TypeIs (.ref e) "enumerate" := ⟨_, he, rfl⟩
  unfold pyNext
  refine wpAny_bind (wpAny_attempt (wpAny_callSpecial?_slot (name := Str.ofString "__next__") hT F.slot_enumerate_next
    (wpAny_call_entry F.slot_enumerate_next hT F.entry_enumerate_next ?_ (F.args_enumerate_next_1 _))))
  show wpAny _ _ (field (.ref e) 2 >>= _) _ _ _
  refine wpAny_bind (wpAny_field he rfl (x := .ref it) rfl ?_)
  refine wpAny_bind (RZ.nextOf_tuple_end hh hit hl hx fun h' x he' hx' => ?_)
  obtain ⟨o, ho, hc⟩ := hx'
  refine wpAny_bind (wpAny_isInstance (T := "StopIteration") (b := true) ⟨o, ho, hc⟩ isSubtype_stop ?_)
  exact wpAny_pure (hQ _ he')

/-- the tuple at a, each item in a new pair -/
def IteT (K : PySem.W.Frag) (a : Addr) : It :=
  ⟨fun i H => ∃ (xs : List V) (x : V), SqT K H a xs ∧ xs[i]? = some x, fun i H v H' => ∃ T x, v = .ref T ∧ H T = none ∧ H' = upd H T (.tup [.int (i : Nat), x]) ∧ ∀ xs, SqT K H a xs → xs[i]? = some x, fun i H => ∃ xs : List V, SqT K H a xs ∧ xs.length ≤ i⟩
theorem turn_enumT {P : Program} {w : World} {K : PySem.W.Frag} {elts : List Expr} {kk : Nat} {tpos : Pos} (a e it : Addr) :
    Turn P w K (.Tuple elts kk tpos) (IteT K a) [e, it] e (fun i h => (∃ old, IsEnum h e it ((i : Nat) : Int) old) ∧ h.IsTupleIter it a i ∧ e ≠ it ∧ a ≠ it ∧ a ≠ e) where
  mem := by simp
  obj := fun i h st b hb => by
    obtain ⟨⟨old, he⟩, ⟨o, ho, hc, hd⟩, _⟩ := st
    have e' : b = e ∨ b = it := by simpa using hb
    rcases e' with z | z
    · rw [z]; exact ⟨_, he, fun v q => nomatch q⟩
    · rw [z]; exact ⟨o, ho, fun v q => by rw [hd] at q; cases q⟩
  keep := fun i h h' st k => let ⟨⟨old, he⟩, hi, hne⟩ := st; ⟨⟨old, k e (by simp) _ he⟩, hi.at fun o q => k it (by simp) o q, hne⟩
  item := by
    intro X hP hw hK hc i pins s σ H E I hf st hg
    subst hP hw hK
    obtain ⟨⟨old, he⟩, hit, hne, hai, hae⟩ := st
    obtain ⟨xs, x, hq, hx⟩ := hg
    obtain ⟨its, rv, p, hz⟩ := I.tuple hq
    obtain ⟨u, hu, ru⟩ := rv.get hx
    have hel : e < s.heap.objs.size := Heap.lt_size he
    have hil : it < s.heap.objs.size := by obtain ⟨_, q, _⟩ := hit; exact Heap.lt_size q
    have hiu : i < its.toArray.size := by
      have := (List.getElem?_eq_some_iff.mp hu).1
      simpa using this
    refine wpAny_pyNext_enum_itemD (Draws.tuple (A := X.A.in1) (I.ok.hd hc) it a hai its.toArray) he ⟨hit, p⟩ hiu hne (by simp [hne, Ne.symm hae]) fun x' h' tk hP ho hit' hT hsz hk => ?_
    obtain ⟨hit', p'⟩ := hit'
    have ex' : x' = u := by
      have q : its.toArray[i]? = some x' := hP
      have q' : its.toArray[i]? = some u := by simpa using hu
      rw [q'] at q; exact (Option.some.inj q).symm
    subst ex'
    refine ⟨_, rfl, wpAny_letOwnedTupleGo_enum (s := { s with heap := h', toks := tk + 1 }) ho fun h'' he' sb => ?_⟩
    have hT2 : h''.get? s.heap.objs.size = some { cls := .type "tuple", data := .seq #[.int i tk, x'] } := (sb.2 _ (Nat.ne_of_gt hel)).trans hT
    have new : ObjOk X.prog X.w (upd H s.heap.objs.size (.tup [.int (i : Nat), x])) h'' s.heap.objs.size (.tup [.int (i : Nat), x]) :=
      ⟨by show 2 ≤ sizeLine; decide, [.int i tk, x'], .cons ⟨_, rfl⟩ (.cons ru .nil), ⟨_, hT2, rfl, _, rfl⟩⟩
    have I1 : Inv X pins σ (upd H s.heap.objs.size (.tup [.int (i : Nat), x])) { s with heap := h'', toks := tk + 1 } :=
      I.turnedNew (ch := [e, it]) (fun b ob hb q => (sb.2 b (fun z => hb (by simp [z]))).trans (hk b ob (fun z => hb (by simp [z])) (fun z => hb (by simp [z])) q)) hf (Nat.le_refl _) new
    refine ⟨.ref s.heap.objs.size, _, I1, rfl, ⟨_, x, rfl, I.hok.fresh (Nat.le_refl _), rfl, fun ys hy => by rw [I.tuple_inj hy hq]; exact hx⟩, ⟨⟨x', ?_⟩, hit'.at fun o q => (sb.2 it (Ne.symm hne)).trans q, hne, hai, hae⟩, fun b hb => ?_⟩
    · have e1 : ((i + 1 : Nat) : Int) = (i : Int) + 1 := by omega
      rw [e1]; exact he'
    · have hb' : b < s.heap.objs.size := by
        have e' : b = e ∨ b = it := by simpa using hb
        rcases e' with z | z
        · rw [z]; exact hel
        · rw [z]; exact hil
      rw [upd_ne (Nat.ne_of_lt hb')]
      exact (hf b hb).1
  done := by
    intro X hP hw hK hc i pins s σ H E I hf st hg
    subst hP hw hK
    obtain ⟨⟨old, he⟩, hit, hne, hai, hae⟩ := st
    obtain ⟨xs, hq, hx⟩ := hg
    obtain ⟨its, rv, p, hz⟩ := I.tuple hq
    obtain ⟨f0, f1, f2, f3, f4, f5⟩ := hf it (by simp)
    have hl := rv.length
    exact pyNext_enumT_end (I.ok.hd hc) he hit p (by simp; omega) fun h' eb => ⟨rfl, I.turned (t' := s.toks) (fun b o hb q => eb b o hb q) f0 f1 f3 f4 f5⟩
  self := fun A i s Q E st h => let ⟨⟨_, he⟩, _⟩ := st; wpAny_pyIter_enum he h
/-- a list or a tuple of data, each item in a new pair -/
def ItE (N : Addr → Prop) (d : PyData) (v : V) : It :=
  ⟨fun i H => ∃ ds, Dt N H d v ∧ seqOf d = some ds ∧ i < ds.length, fun i H x H' => ∃ T y e ds, x = .ref T ∧ H T = none ∧ H' = upd H T (.tup [.int (i : Nat), y]) ∧ seqOf d = some ds ∧ ds[i]? = some e ∧ Dt N H e y,
    fun i H => ∃ ds, Dt N H d v ∧ seqOf d = some ds ∧ ds.length ≤ i⟩
theorem turn_enL {P : Program} {w : World} {K : PySem.W.Frag} {tg : Expr} {fp : List Addr} {it : Addr} {tn : Nat → Heap → Prop} {N : Addr → Prop} {ds : List PyData} {a : Addr} (T : Turn P w K tg (Ite K a) fp it tn) : Turn P w K tg (ItE N (.list ds) (.ref a)) fp it tn := by
  refine turn_imp T (fun i H g => ?_) (fun i H g => ?_)
  · obtain ⟨ds', hd, e, hi⟩ := g
    cases e
    cases hd with
    | lst n h r =>
      obtain ⟨v, hv, hd⟩ := r.get (i := i) (d := ds[i]) (by simp [hi])
      refine ⟨⟨_, v, SqL.of h, hv⟩, fun x H' y => ?_⟩
      obtain ⟨T, x', e1, e2, e3, e4⟩ := y
      have z := e4 _ (SqL.of h)
      rw [hv] at z
      cases z
      exact ⟨T, v, ds[i], ds, e1, e2, e3, rfl, by simp [hi], hd⟩
  · obtain ⟨ds', hd, e, hi⟩ := g
    cases e
    cases hd with
    | lst n h r => exact ⟨_, SqL.of h, by rw [← r.len]; exact hi⟩
theorem turn_enT {P : Program} {w : World} {K : PySem.W.Frag} {tg : Expr} {fp : List Addr} {it : Addr} {tn : Nat → Heap → Prop} {N : Addr → Prop} {ds : List PyData} {a : Addr} (T : Turn P w K tg (IteT K a) fp it tn) : Turn P w K tg (ItE N (.tuple ds) (.ref a)) fp it tn := by
  refine turn_imp T (fun i H g => ?_) (fun i H g => ?_)
  · obtain ⟨ds', hd, e, hi⟩ := g
    cases e
    cases hd with
    | tup n h r =>
      obtain ⟨v, hv, hd⟩ := r.get (i := i) (d := ds[i]) (by simp [hi])
      refine ⟨⟨_, v, SqT.of h, hv⟩, fun x H' y => ?_⟩
      obtain ⟨T, x', e1, e2, e3, e4⟩ := y
      have z := e4 _ (SqT.of h)
      rw [hv] at z
      cases z
      exact ⟨T, v, ds[i], ds, e1, e2, e3, rfl, by simp [hi], hd⟩
  · obtain ⟨ds', hd, e, hi⟩ := g
    cases e
    cases hd with
    | tup n h r => exact ⟨_, SqT.of h, by rw [← r.len]; exact hi⟩
def iEnD (ta : TA) : TI := fun σ H R => ta σ H fun vs H1 => ∃ (N : Addr → Prop) (d : PyData) (v : V) (ds : List PyData), vs = [v] ∧ Dt N H1 d v ∧ seqOf d = some ds ∧ R (ItE N d v) H1
theorem pi_enD {X : Cx} {e : Expr} {ta : TA} {p pos tpos : Pos} {elts : List Expr} {kk : Nat} (hg : Gl X "enumerate") (hm : X.mg "enumerate" = none) (ha : PA X [e] ta) (hs : starEach [e] X.env = [(false, eval e X.env)] := by rfl) :
    PI X (.Tuple elts kk tpos) (.Call (.Name "enumerate" p) [e] [] pos) (iEnD ta) := by
  refine ⟨fun pins s σ H R I h => ?_⟩
  refine Call_ (ld_blt I hg hm boot_enumerate (PyProof.Rows.callWith_type1 (thn (ha.run pos pins s σ H _ I h) fun us s1 ⟨vs, H1, I1, r1, q1⟩ => ?_) hs rfl))
  obtain ⟨N, d, v, ds, ex, hd, hq, q⟩ := q1
  subst ex
  cases r1 with
  | cons r rr =>
    cases rr
    have fps : ∀ b ∈ [s1.heap.objs.size + 1, s1.heap.objs.size], FpOk X pins H1 b := fun b hb => by
      have e' : b = s1.heap.objs.size + 1 ∨ b = s1.heap.objs.size := by simpa using hb
      have hle : s1.heap.objs.size ≤ b := by
        rcases e' with z | z
        · rw [z]; exact Nat.le_add_right _ _
        · rw [z]; exact Nat.le_refl _
      exact I1.fpOk hle (I1.hok.fresh hle)
    cases hd with
    | lst n h r' =>
      cases r
      cases hq
      obtain ⟨its, rv, p', hz⟩ := I1.list (SqL.of h)
      refine call_enumerate_list p'.isList fun h' he hit hsz hk => wpAny_pyIter_enum he ?_
      have I2 : Inv X pins σ H1 { s1 with heap := h' } := I1.kept (t' := s1.toks) hk
      exact ⟨s1.heap.objs.size + 1, [s1.heap.objs.size + 1, s1.heap.objs.size], _, _, H1, rfl, I2, turn_enL (turn_enum _ (s1.heap.objs.size + 1) s1.heap.objs.size), ⟨⟨.none, he⟩, hit, Nat.succ_ne_self _⟩, fps, q⟩
    | tup n h r' =>
      cases r
      cases hq
      obtain ⟨its, rv, p', hz⟩ := I1.tuple (SqT.of h)
      obtain ⟨o, q', p2⟩ := id p'
      have ha1 := Heap.lt_size q'
      refine call_enumerate_tuple (show s1.heap.IsTuple _ its.toArray from p') fun h' he hit hsz hk => wpAny_pyIter_enum he ?_
      have I2 : Inv X pins σ H1 { s1 with heap := h' } := I1.kept (t' := s1.toks) hk
      exact ⟨s1.heap.objs.size + 1, [s1.heap.objs.size + 1, s1.heap.objs.size], _, _, H1, rfl, I2, turn_enT (turn_enumT _ (s1.heap.objs.size + 1) s1.heap.objs.size), ⟨⟨.none, he⟩, hit, Nat.succ_ne_self _, Nat.ne_of_lt ha1, Nat.ne_of_lt (Nat.lt_succ_of_lt ha1)⟩, fps, q⟩
    | _ => cases hq
/-- .. the loop -/
theorem for_enD {N : Addr → Prop} {d : PyData} {v : V} {ds : List PyData} {g : TG} {tb : TS} {D : Ends} {σ : L2.St} {H : Hp} (hq : seqOf d = some ds) (Pv : Nat → L2.St → Hp → Prop) (h0 : Pv 0 σ H) (hl : ∀ i σ H, i ≤ ds.length → Pv i σ H → Dt N H d v)
    (hs : ∀ i e y T σ H, ds[i]? = some e → Pv i σ H → H T = none → Dt N H e y → g (.ref T) σ (upd H T (.tup [.int (i : Nat), y])) fun σ2 H2 => tb { D with nx := Pv (i + 1), ct := Pv (i + 1), bk := D.nx } σ2 H2) (hd : ∀ σ H, Pv ds.length σ H → D.nx σ H) :
    ∃ W : Nat → Nat → L2.St → Hp → Prop, (∃ m, W 0 m σ H) ∧ ∀ i m σ H, W i m σ H →
      ((ItE N d v).stop i H ∧ D.nx σ H) ∨ ((ItE N d v).go i H ∧ ∃ N' : L2.St → Hp → Prop, (∀ σ' H', N' σ' H' → ∃ m', m' < m ∧ W (i + 1) m' σ' H') ∧ ∀ x H', (ItE N d v).yld i H x H' → g x σ H' fun σ2 H2 => tb { D with nx := N', ct := N', bk := D.nx } σ2 H2) := by
  refine ⟨fun i m σ H => m = ds.length - i ∧ i ≤ ds.length ∧ Pv i σ H, ⟨ds.length, by simp, Nat.zero_le _, h0⟩, ?_⟩
  rintro i m σ H ⟨rfl, hi, p⟩
  have q := hl i σ H hi p
  by_cases hlt : i < ds.length
  · refine .inr ⟨⟨ds, q, hq, hlt⟩, Pv (i + 1), fun σ' H' p' => ⟨ds.length - (i + 1), by omega, rfl, hlt, p'⟩, fun x H' y => ?_⟩
    obtain ⟨T, y, e, ds', e1, e2, e3, e4, e5, e6⟩ := y
    rw [hq] at e4
    cases e4
    subst e1 e3
    exact hs i e y T σ H e5 p e2 e6
  · have e : i = ds.length := by omega
    subst e
    exact .inl ⟨⟨ds, q, hq, Nat.le_refl _⟩, hd σ H p⟩

/-- a list or a tuple of data -/
def ItD (N : Addr → Prop) (d : PyData) (v : V) : It :=
  ⟨fun i H => ∃ ds, Dt N H d v ∧ seqOf d = some ds ∧ i < ds.length, fun i H x H' => ∃ e ds, H' = H ∧ seqOf d = some ds ∧ ds[i]? = some e ∧ Dt N H e x, fun i H => ∃ ds, Dt N H d v ∧ seqOf d = some ds ∧ ds.length ≤ i⟩
theorem turn_dL {P : Program} {w : World} {K : PySem.W.Frag} {tg : Expr} {fp : List Addr} {it : Addr} {tn : Nat → Heap → Prop} {N : Addr → Prop} {ds : List PyData} {a : Addr} (T : Turn P w K tg (Itl K a) fp it tn) : Turn P w K tg (ItD N (.list ds) (.ref a)) fp it tn := by
  refine turn_imp T (fun i H g => ?_) (fun i H g => ?_)
  · obtain ⟨ds', hd, e, hi⟩ := g
    cases e
    cases hd with
    | lst n h r =>
      obtain ⟨v, hv, hd⟩ := r.get (i := i) (d := ds[i]) (by simp [hi])
      refine ⟨⟨_, v, SqL.of h, hv⟩, fun x H' y => ?_⟩
      obtain ⟨e1, e4⟩ := y
      have z := e4 _ (SqL.of h)
      rw [hv] at z
      cases z
      exact ⟨ds[i], ds, e1, rfl, by simp [hi], hd⟩
  · obtain ⟨ds', hd, e, hi⟩ := g
    cases e
    cases hd with
    | lst n h r => exact ⟨_, SqL.of h, by rw [← r.len]; exact hi⟩
theorem turn_dT {P : Program} {w : World} {K : PySem.W.Frag} {tg : Expr} {fp : List Addr} {it : Addr} {tn : Nat → Heap → Prop} {N : Addr → Prop} {ds : List PyData} {a : Addr} (T : Turn P w K tg (Itt K a) fp it tn) : Turn P w K tg (ItD N (.tuple ds) (.ref a)) fp it tn := by
  refine turn_imp T (fun i H g => ?_) (fun i H g => ?_)
  · obtain ⟨ds', hd, e, hi⟩ := g
    cases e
    cases hd with
    | tup n h r =>
      obtain ⟨v, hv, hd⟩ := r.get (i := i) (d := ds[i]) (by simp [hi])
      refine ⟨⟨_, v, SqT.of h, hv⟩, fun x H' y => ?_⟩
      obtain ⟨e1, e4⟩ := y
      have z := e4 _ (SqT.of h)
      rw [hv] at z
      cases z
      exact ⟨ds[i], ds, e1, rfl, by simp [hi], hd⟩
  · obtain ⟨ds', hd, e, hi⟩ := g
    cases e
    cases hd with
    | tup n h r => exact ⟨_, SqT.of h, by rw [← r.len]; exact hi⟩
def iDt (te : TE) : TI := fun σ H R => te σ H fun v H1 => ∃ (N : Addr → Prop) (d : PyData) (ds : List PyData), Dt N H1 d v ∧ seqOf d = some ds ∧ R (ItD N d v) H1
theorem pi_dt {X : Cx} {tg e : Expr} {te : TE} (hl : PE X e te) : PI X tg e (iDt te) := by
  refine ⟨fun pins s σ H R I h => ?_⟩
  refine thn (hl.run pins s σ H _ I h) fun v s1 ⟨x, H1, I1, r1, N, d, ds, hd, hq, q⟩ => ?_
  have fps : ∀ b ∈ [s1.heap.objs.size], FpOk X pins H1 b := fun b hb => by
    have e : b = s1.heap.objs.size := by simpa using hb
    subst e
    exact I1.fpOk (Nat.le_refl _) (I1.hok.fresh (Nat.le_refl _))
  cases hd with
  | lst n h r' =>
    cases r1
    cases hq
    obtain ⟨its, rv, p, hz⟩ := I1.list (SqL.of h)
    refine wpAny_pyIter_list p.isList ?_
    exact ⟨s1.heap.objs.size, [s1.heap.objs.size], _, _, H1, rfl, I1.kept (t' := s1.toks) fun b o e => Heap.get?_push_of_some _ e, turn_dL (turn_list _ _), ⟨_, Heap.get?_push_size _ rfl, rfl, rfl⟩, fps, q⟩
  | tup n h r' =>
    cases r1
    cases hq
    obtain ⟨its, rv, p, hz⟩ := I1.tuple (SqT.of h)
    refine wpAny_pyIter_tuple (show s1.heap.IsTuple _ its.toArray from p) ?_
    exact ⟨s1.heap.objs.size, [s1.heap.objs.size], _, _, H1, rfl, I1.kept (t' := s1.toks) fun b o e => Heap.get?_push_of_some _ e, turn_dT (turn_tuple _ _), ⟨_, Heap.get?_push_size _ rfl, rfl, rfl⟩, fps, q⟩
  | _ => cases hq
theorem for_dt {N : Addr → Prop} {d : PyData} {v : V} {ds : List PyData} {g : TG} {tb : TS} {D : Ends} {σ : L2.St} {H : Hp} (hq : seqOf d = some ds) (Pv : Nat → L2.St → Hp → Prop) (h0 : Pv 0 σ H) (hl : ∀ i σ H, i ≤ ds.length → Pv i σ H → Dt N H d v)
    (hs : ∀ i e y σ H, ds[i]? = some e → Pv i σ H → Dt N H e y → g y σ H fun σ2 H2 => tb { D with nx := Pv (i + 1), ct := Pv (i + 1), bk := D.nx } σ2 H2) (hd : ∀ σ H, Pv ds.length σ H → D.nx σ H) :
    ∃ W : Nat → Nat → L2.St → Hp → Prop, (∃ m, W 0 m σ H) ∧ ∀ i m σ H, W i m σ H →
      ((ItD N d v).stop i H ∧ D.nx σ H) ∨ ((ItD N d v).go i H ∧ ∃ N' : L2.St → Hp → Prop, (∀ σ' H', N' σ' H' → ∃ m', m' < m ∧ W (i + 1) m' σ' H') ∧ ∀ x H', (ItD N d v).yld i H x H' → g x σ H' fun σ2 H2 => tb { D with nx := N', ct := N', bk := D.nx } σ2 H2) := by
  refine ⟨fun i m σ H => m = ds.length - i ∧ i ≤ ds.length ∧ Pv i σ H, ⟨ds.length, by simp, Nat.zero_le _, h0⟩, ?_⟩
  rintro i m σ H ⟨rfl, hi, p⟩
  have q := hl i σ H hi p
  by_cases hlt : i < ds.length
  · refine .inr ⟨⟨ds, q, hq, hlt⟩, Pv (i + 1), fun σ' H' p' => ⟨ds.length - (i + 1), by omega, rfl, hlt, p'⟩, fun x H' y => ?_⟩
    obtain ⟨e, ds', e3, e4, e5, e6⟩ := y
    rw [hq] at e4
    cases e4
    subst e3
    exact hs i e x σ _ e5 p e6
  · have e : i = ds.length := by omega
    subst e
    exact .inl ⟨⟨ds, q, hq, Nat.le_refl _⟩, hd σ H p⟩
end K8
set_option maxRecDepth 100000
set_option maxHeartbeats 1000000
/-! P5: check_starts. -/
namespace K8
open PySem PySem.Spec PyProof.Rows L2 L2H

/-- without a place where nothing stands -/
def Nx (N : Addr → Prop) (a : Addr) : Addr → Prop := fun b => N b ∧ b ≠ a
section
variable {N : Addr → Prop} {H : Hp} {a : Addr}
mutual
theorem Dt.off (ha : H a = none) : ∀ {d : PyData} {v : V}, Dt N H d v → Dt (Nx N a) H d v
  | _, _, .non => .non
  | _, _, .bl b => .bl b
  | _, _, .int i => .int i
  | _, _, .str x => .str x
  | _, _, .lst n h r => .lst ⟨n, ne_of_none h ha⟩ h (DtL.off ha r)
  | _, _, .tup n h r => .tup ⟨n, ne_of_none h ha⟩ h (DtL.off ha r)
theorem DtL.off (ha : H a = none) : ∀ {ds : List PyData} {vs : List V}, DtL N H ds vs → DtL (Nx N a) H ds vs
  | _, _, .nil => .nil
  | _, _, .cons h r => .cons (Dt.off ha h) (DtL.off ha r)
end
theorem Nx.sub : ∀ b, Nx N a b → N b := fun _ h => h.1
theorem Fn.off {o : HO} (f : Fn N H) (h : H a = some o) : Fn (Nx N a) H := fun b e => ⟨f b e, fun z => by rw [z, h] at e; cases e⟩
theorem Kp.putx {o : HO} : Kp (Nx N a) H (upd H a o) := .put fun h => h.2 rfl
end
/-- what a checker of a list makes -/
def okS {α : Type} (f : PyData → Option α) (lim : Nat) (d : PyData) (ls : List α) : Prop := ∃ ds, seqOf d = some ds ∧ ds.length ≤ lim ∧ ds.map f = ls.map some
def badS {α : Type} (f : PyData → Option α) (lim : Nat) (d : PyData) (at_ : Int) : Prop :=
  ((∀ ds, seqOf d = some ds → lim < ds.length) ∧ at_ = -1) ∨ ∃ (ds : List PyData) (i : Nat) (e : PyData) (ls : List α), seqOf d = some ds ∧ ds.length ≤ lim ∧ at_ = (i : Nat) ∧ ds[i]? = some e ∧ f e = none ∧ (ds.take i).map f = ls.map some
theorem take_succ' {α β : Type} {ds : List α} {f : α → Option β} {ls : List β} {i : Nat} {e : α} {l : β} (h : ds[i]? = some e) (hf : f e = some l) (hm : (ds.take i).map f = ls.map some) : (ds.take (i + 1)).map f = (ls ++ [l]).map some := by
  rw [List.take_add_one, h, List.map_append, hm, List.map_append]
  show List.map some ls ++ [f e] = _
  rw [hf]; rfl
/-- a start -/
def chkSt (n : Int) (d : PyData) : Option (Int × Int) := match seqOf d with
  | some [a, b] => if wIn a 0 (n - 1) = true ∧ wIn b (-1000) 1000 = true then (match a, b with | .int x, .int y => some (x, y) | _, _ => none) else none
  | _ => none
def encSt (p : Int × Int) : PyData := .tuple [.int p.1, .int p.2]
section
variable {P : Program} {w : World} {K : PySem.W.Frag} {mg : Str → Option Value} {base : Heap}
def spSeq {α : Type} (f : Int → PyData → Option α) (enc : α → PyData) (wh : Str) (lim : Nat) (C : Addr) : Sp := fun vs H Q E => ∃ (N : Addr → Prop) (n : Int) (d : PyData) (v : V), vs = [.int n, v] ∧ Dt N H d v ∧ Fn N H ∧
  (∀ ls, okS (f n) lim d ls → ∀ p H', Same H H' → Dt N H' (.tuple (ls.map enc)) p → Q p H') ∧
  (∀ at_, badS (f n) lim d at_ → ∀ dd H', Same H H' → H dd = none → H' dd = some (.xd (fsM wh at_)) → E (.ref C) (some dd) H')
theorem sc_starts : FnScope ["stations", "starts", "told", "at", "start"] ["stations", "starts"] (defScope (top 16)) := ⟨rfl, rfl, rfl, by decide +kernel, rfl, by decide +kernel, by decide +kernel⟩
/-- the loop's state -/
def LpS {α : Type} (N : Addr → Prop) (H : Hp) (n : Int) (v : V) (a : Addr) (f : PyData → Option α) (enc : α → PyData) (ds : List PyData) (i : Nat) (σ : L2.St) (H' : Hp) : Prop :=
  ∃ (x y : Option V) (vs : List V) (ls : List α), σ = [some (.int n), some v, some (.ref a), x, y] ∧ Same H H' ∧ H' a = some (.lst vs) ∧ (ds.take i).map f = ls.map some ∧ DtL (Nx N a) H' (ls.map enc) vs
theorem ok_starts {C : Addr} (B : Bn mg) (D : Dn K mg "check_starts" 16 ["stations", "starts"]) (W : Ok P w K mg base CX0 1 "whole_within" ["thing", "low", "high"] spWhole) (X : ExM P w K mg base C) :
    Ok P w K mg base (L2.CX P w) 3 "check_starts" ["stations", "starts"] (spSeq chkSt encSt "starts" 60 C) := by
  refine D.okC sc_starts (fun vs H Q E h => ?_) (fun f cdv A outer s H vs Q E hr h => ?_)
  · obtain ⟨N, n, d, v, rfl, _⟩ := h; rfl
  · obtain ⟨N, n, d, v, rfl, hd, fn, kq, ke⟩ := h
    have hr1 : Room 1 _ := hr.mono (by decide)
    refine ⟨_, pss_cons (ps_if (PW.pt (pw_or (pt_not (pt_sq 1 B (pv 1)))
        (pw_or1 (pt_cmpR op_gt (pe_callB len_dt (by rfl) B.len b_len (pa_cons (pv 1) pa_nil)) pe_int (nomark _)))))
        (pss_one (L2N.ps_raise rfl (TakesK.of (n := 0) (L2.takes_of rfl rfl rfl rfl)).n (mkM X (roomH_of hr) (pa_cons pe_str (pa_cons (pe_un un_neg pe_int) pa_nil))).pmk)) pss_nil)
      (pss_cons (ps_set (i := 2) sc_starts.nd rfl (Or.inl rfl) (pe_lst pa_nil))
      (pss_cons (ps_for (passes_of rfl) rfl (pi_enD (by rfl) B.enum (pa_cons (pv 1) pa_nil)) (pg_tup (n := 2) rfl (pgs_cons (pg_name (i := 3) sc_starts.nd rfl (Or.inl rfl)) (pgs_cons (pg_name (i := 4) sc_starts.nd rfl (Or.inl rfl)) pgs_nil)))
        (pss_cons (ps_if (PW.pt (pw_or (pt_not (pt_sq 4 B (pv 4)))
            (pw_or1 (pt_cmpR neI (pe_callB len_dt (by rfl) B.len b_len (pa_cons (pv 4) pa_nil)) pe_int (nomark _)))))
            (pss_one (L2N.ps_raise rfl (TakesK.of (n := 0) (L2.takes_of rfl rfl rfl rfl)).n (mkM X (roomH_of hr) (pa_cons pe_str (pa_cons (pv 3) pa_nil))).pmk)) pss_nil)
        (pss_cons (ps_if (PW.pt (pw_or (pt_not (pt_val (pc W hr1 pass0 (pa_cons (pe_ix ix_dt (pv 4) pe_int (fun _ _ => rfl)) (pa_cons pe_int (pa_cons (pe_op op_sub (pv 0) pe_int) pa_nil))))))
            (pw_or1 (pt_not (pt_val (pc W hr1 pass0 (pa_cons (pe_ix ix_dt (pv 4) pe_int (fun _ _ => rfl)) (pa_cons (pe_un un_neg pe_int) (pa_cons pe_int pa_nil)))))))))
            (pss_one (L2N.ps_raise rfl (TakesK.of (n := 0) (L2.takes_of rfl rfl rfl rfl)).n (mkM X (roomH_of hr) (pa_cons pe_str (pa_cons (pv 3) pa_nil))).pmk)) pss_nil)
        (pss_one (ps_expr (pe_bm PySem.F.plainAttrs_list PySem.F.slot_list_append PySem.F.type_list_append mt_append (pv 2) (pa_cons (pe_tup (pa_cons (pe_ix ix_dt (pv 4) pe_int (fun _ _ => rfl)) (pa_cons (pe_ix ix_dt (pv 4) pe_int (fun _ _ => rfl)) pa_nil))) pa_nil)))))))
      (pss_one (ps_ret (pe_callTy call_tuple_of (by rfl) B.tuple b_tuple (pa_cons (pv 2) pa_nil)))))), ?_⟩
    have sz2 : 2 ≤ sizeLine := by show 2 ≤ sizeLine; decide
    have szl : 4000 ≤ sizeLine := by show 4000 ≤ sizeLine; decide +kernel
    -- the errors ahead of the loop
    have bad1 : ∀ H1, Same H H1 → (∀ ds, seqOf d = some ds → 60 < ds.length) → (tMkM C (tCons (tC (.str "starts")) (tCons (tUn (rU fun i => .int (-i)) (tC (.int 1))) tNil))) [some (.int n), some v, none, none, none] H1 fun cls d H => E cls d H := fun H1 s1 z => by
      refine ⟨_, rfl, "starts", -1, rfl, by decide +kernel, by decide +kernel, fun dd nd => ?_⟩
      exact ke (-1) (.inl ⟨z, rfl⟩) dd _ (same_up s1 nd) (s1.free nd) upd_same
    refine ⟨v, N, d, rfl, hd, fun H1 s1 => ?_⟩
    cases hs : seqOf d with
    | none => exact iteT (iteT (bad1 H1 s1 fun ds z => by rw [hs] at z; cases z))
    | some ds =>
      have hd1 := hd.same s1
      refine iteF ⟨_, rfl, N, d, v, ds, rfl, hd1, hs, _, _, rfl, rfl, _, rfl, ?_⟩
      refine ite2 (fun c => bad1 H1 s1 fun ds' z => ?_) (fun c => ?_)
      · rw [hs] at z; cases z
        have c' : (60 : Int) < ((ds.length : Nat) : Int) := of_decide_eq_true c
        omega
      have hlen : ds.length ≤ 60 := by
        have c' : ¬ (60 : Int) < ((ds.length : Nat) : Int) := fun z => c (decide_eq_true z)
        omega
      refine ⟨(by show 0 ≤ sizeLine; omega), fun a na => ?_⟩
      have ha : H a = none := s1.free na
      have hdx := hd.off ha
      refine ⟨_, rfl, Nx N a, d, v, ds, rfl, hdx.same (same_up s1 na), hs, ?_⟩
      refine for_enD hs (LpS N H n v a (chkSt n) encSt ds) ⟨none, none, [], [], rfl, same_up s1 na, upd_same, rfl, .nil⟩ (fun i σ H' _ ⟨x, y, vs, ls, e1, s2, _⟩ => hdx.same s2) (fun i e y T σ H2 hi hp nT hy => ?_) (fun σ H2 hp => ?_)
      · obtain ⟨x0, y0, vs, ls, rfl, s2, hl, hm, hdl⟩ := hp
        refine ⟨T, _, rfl, SqT.of upd_same, rfl, _, _, rfl, _, _, rfl, rfl, ?_⟩
        have s3 := same_up (o := .tup [.int (i : Nat), y]) s2 nT
        have hy3 := hy.same (same_new (o := .tup [.int (i : Nat), y]) nT)
        have hil : i < ds.length := (List.getElem?_eq_some_iff.mp hi).1
        have hi60 : i < 60 := by omega
        have bad2 : ∀ H1, Same H H1 → chkSt n e = none → (tMkM C (tCons (tC (.str "starts")) (tCons (tVar 3) tNil))) [some (.int n), some v, some (.ref a), some (.int (i : Nat)), some y] H1 fun cls d H => E cls d H := fun H1 s1 z => by
          refine ⟨_, rfl, "starts", _, rfl, by decide +kernel, by omega, fun dd nd => ?_⟩
          exact ke _ (.inr ⟨ds, i, e, ls, hs, hlen, rfl, hi, z, hm⟩) dd _ (same_up s1 nd) (s1.free nd) upd_same
        refine ⟨y, _, e, rfl, hy3, fun H4 s4 => ?_⟩
        have s34 := s3.trans s4
        have hy4 := hy3.same s4
        cases hq : seqOf e with
        | none => exact iteT (iteT (bad2 H4 s34 (by unfold chkSt; rw [hq])))
        | some es =>
          refine iteF ⟨_, rfl, _, e, y, es, rfl, hy4, hq, _, _, rfl, rfl, _, rfl, ?_⟩
          refine itn (fun e2 => bad2 H4 s34 ?_) (fun e2 => ?_)
          · unfold chkSt; rw [hq]
            match es, e2 with
            | [], _ => rfl
            | [_], _ => rfl
            | [_, _], e2 => exact absurd rfl e2
            | _ :: _ :: _ :: _, _ => rfl
          match es, hq, e2 with
          | [], _, e2 => exact absurd e2 (by simp)
          | [_], _, e2 => exact absurd e2 (by simp)
          | _ :: _ :: _ :: _, _, e2 => exact absurd e2 (by simp only [List.length_cons]; omega)
          | [p, q], hq, _ =>
            have cs : chkSt n e = if wIn p 0 (n - 1) = true ∧ wIn q (-1000) 1000 = true then (match p, q with | .int x, .int y => some (x, y) | _, _ => none) else none := by unfold chkSt; rw [hq]
            refine ⟨_, rfl, _, e, _, 0, p, hy4, rfl, hq, rfl, fun v1 h1 => ⟨_, rfl, _, _, rfl, rfl, _, p, v1, 0, n - 1, rfl, h1, _, rfl, ?_⟩⟩
            refine itnb (fun e3 => iteT (bad2 H4 s34 (by rw [cs, if_neg fun z => by rw [e3] at z; cases z.1]))) (fun e3 => ?_)
            refine ⟨_, rfl, _, e, _, 1, q, hy4, rfl, hq, rfl, fun v2 h2 => ⟨_, rfl, _, q, v2, -1000, 1000, rfl, h2, _, rfl, ?_⟩⟩
            refine itnb (fun e4 => bad2 H4 s34 (by rw [cs, if_neg fun z => by rw [e4] at z; cases z.2])) (fun e4 => ?_)
            obtain ⟨zp, rfl, _, _⟩ := wIn_int e3
            obtain ⟨zq, rfl, _, _⟩ := wIn_int e4
            have cs' : chkSt n e = some (zp, zq) := by rw [cs, if_pos ⟨e3, e4⟩]
            have hl4 : H4 a = some (.lst vs) := s4 _ _ (by rw [upd_ne (ne_of_none hl nT)]; exact hl)
            have hlv : vs.length = i := by
              have e1 := hdl.len
              have e2 := congrArg List.length hm
              simp only [List.length_map, List.length_take] at e1 e2
              omega
            refine ⟨_, rfl, .inl ⟨rfl, vs, SqL.of hl4⟩, ?_⟩
            refine ⟨_, rfl, _, e, _, 0, _, hy4, rfl, hq, rfl, fun v3 h3 => ⟨_, rfl, _, e, _, 1, _, hy4, rfl, hq, rfl, fun v4 h4 => ⟨sz2, fun p np => ?_⟩⟩⟩
            have npa : a ≠ p := ne_of_none hl4 np
            refine ⟨a, vs, .ref p, rfl, rfl, by rw [upd_ne npa]; exact hl4, by omega, ?_⟩
            have s5 := same_up (o := .tup [v3, v4]) s34 np
            have s24 : Same H2 H4 := (same_new nT).trans s4
            refine ⟨_, _, _, ls ++ [(zp, zq)], rfl, fun b o hb => ?_, upd_same, take_succ' hi cs' hm, ?_⟩
            · rw [upd_ne (fun z => by rw [z, ha] at hb; cases hb)]; exact s5 b o hb
            · rw [List.map_append]
              refine DtL.app (((hdl.same s24).same (same_new np)).kp .putx) (.one ?_)
              exact (Dt.newT ⟨fn _ (s34.free np), Ne.symm npa⟩ np (.cons h3 (.cons h4 .nil))).kp .putx
      · obtain ⟨x0, y0, vs, ls, rfl, s2, hl, hm, hdl⟩ := hp
        refine ⟨_, rfl, a, vs, rfl, .inl ⟨SqL.of hl, fun p np => ?_⟩⟩
        refine kq ls ⟨ds, hs, hlen, by rw [← hm, List.take_length]⟩ _ _ (same_up s2 np) ?_
        exact (Dt.newT ⟨fn _ (s2.free np), Ne.symm (ne_of_none hl np)⟩ np hdl).sub Nx.sub
end
end K8
set_option maxRecDepth 100000
set_option maxHeartbeats 1000000
/-! P6: check_arrows. -/
namespace K8
open PySem PySem.Spec PyProof.Rows L2 L2H

/-- an arrow -/
abbrev Ar := Int × Mv × Int
def chkA3 (n : Int) (a m b : PyData) : Option Ar := if wIn a 0 (n - 1) = true ∧ wIn b 0 (n - 1) = true then (match a, b with | .int x, .int y => (chkM m).map fun l => (x, l, y) | _, _ => none) else none
def chkAr (n : Int) (d : PyData) : Option Ar := match seqOf d with
  | some [a, m, b] => chkA3 n a m b
  | _ => none
def encAr (p : Ar) : PyData := .tuple [.int p.1, p.2.1.enc, .int p.2.2]
section
variable {P : Program} {w : World} {K : PySem.W.Frag} {mg : Str → Option Value} {base : Heap}
theorem sc_arrows : FnScope ["stations", "arrows", "told", "at", "arrow"] ["stations", "arrows"] (defScope (top 17)) := ⟨rfl, rfl, rfl, by decide +kernel, rfl, by decide +kernel, by decide +kernel⟩
theorem ok_arrows {CL CT CM C : Addr} (B : Bn mg) (D : Dn K mg "check_arrows" 17 ["stations", "arrows"]) (W : Ok P w K mg base CX0 1 "whole_within" ["thing", "low", "high"] spWhole) (X : ExM P w K mg base C)
    (XM : Ex0 P w K mg base "BadMove" CM) (M : Exm K CL CT CM C) (FM : Ok P w K mg base (CXk 1 P w) 4 "check_move" ["move"] (spChk chkM Mv.enc CM)) :
    Ok P w K mg base (L2.CX P w) 5 "check_arrows" ["stations", "arrows"] (spSeq chkAr encAr "arrows" 4000 C) := by
  refine D.okC sc_arrows (fun vs H Q E h => ?_) (fun f cdv A outer s H vs Q E hr h => ?_)
  · obtain ⟨N, n, d, v, rfl, _⟩ := h; rfl
  · obtain ⟨N, n, d, v, rfl, hd, fn, kq, ke⟩ := h
    have hr1 : Room 1 _ := hr.mono (by decide)
    have hr2 : RoomH 2 _ := roomH_of (hr.mono (by decide))
    refine ⟨_, pss_cons (ps_if (PW.pt (pw_or (pt_not (pt_sq 1 B (pv 1)))
        (pw_or1 (pt_cmpR op_gt (pe_callB len_dt (by rfl) B.len b_len (pa_cons (pv 1) pa_nil)) pe_int (nomark _)))))
        (pss_one (L2N.ps_raise rfl (TakesK.of (n := 0) (L2.takes_of rfl rfl rfl rfl)).n (mkM X hr2 (pa_cons pe_str (pa_cons (pe_un un_neg pe_int) pa_nil))).pmk)) pss_nil)
      (pss_cons (ps_set (i := 2) sc_arrows.nd rfl (Or.inl rfl) (pe_lst pa_nil))
      (pss_cons (ps_for (passes_of rfl) rfl (pi_enD (by rfl) B.enum (pa_cons (pv 1) pa_nil)) (pg_tup (n := 2) rfl (pgs_cons (pg_name (i := 3) sc_arrows.nd rfl (Or.inl rfl)) (pgs_cons (pg_name (i := 4) sc_arrows.nd rfl (Or.inl rfl)) pgs_nil)))
        (pss_cons (ps_if (PW.pt (pw_or (pt_not (pt_sq 4 B (pv 4)))
            (pw_or1 (pt_cmpR neI (pe_callB len_dt (by rfl) B.len b_len (pa_cons (pv 4) pa_nil)) pe_int (nomark _)))))
            (pss_one (L2N.ps_raise rfl (TakesK.of (n := 0) (L2.takes_of rfl rfl rfl rfl)).n (mkM X hr2 (pa_cons pe_str (pa_cons (pv 3) pa_nil))).pmk)) pss_nil)
        (pss_cons (ps_if (PW.pt (pw_or (pt_not (pt_val (pc W hr1 pass0 (pa_cons (pe_ix ix_dt (pv 4) pe_int (fun _ _ => rfl)) (pa_cons pe_int (pa_cons (pe_op op_sub (pv 0) pe_int) pa_nil))))))
            (pw_or1 (pt_not (pt_val (pc W hr1 pass0 (pa_cons (pe_ix ix_dt (pv 4) pe_int (fun _ _ => rfl)) (pa_cons pe_int (pa_cons (pe_op op_sub (pv 0) pe_int) pa_nil)))))))))
            (pss_one (L2N.ps_raise rfl (TakesK.of (n := 0) (L2.takes_of rfl rfl rfl rfl)).n (mkM X hr2 (pa_cons pe_str (pa_cons (pv 3) pa_nil))).pmk)) pss_nil)
        (pss_one (ps_try_re (n := 1) (m := fun cls => PySem.W.exmOne K cls (.ref CM)) (Wout := fun cls d _ H => E cls d H) (te := tMkM C (tCons (tC (.str "arrows")) (tCons (tVar 3) tNil)))
          (tb := fun W => tDrop (tBM K "list" rAppend (tVar 2) (tCons (tTup (tCons (tOp rIxDt (tVar 4) (tC (.int 0))) (tCons (tCallS (spChk chkM Mv.enc CM) (WE W) (tCons (tOp rIxDt (tVar 4) (tC (.int 1))) tNil)) (tCons (tOp rIxDt (tVar 4) (tC (.int 2))) tNil)))) tNil))) (Nat.le_refl _) rfl rfl (testX_name (by rfl) XM.g) (passesAt_of rfl) (TakesK.of (L2.takes_of rfl rfl rfl rfl))
          (fun W pn xe tk hp => by exact pss_one (ps_expr (pe_bm PySem.F.plainAttrs_list PySem.F.slot_list_append PySem.F.type_list_append mt_append (pv 2) (pa_cons (pe_tup (pa_cons (pe_ix ix_dt (pv 4) pe_int (fun _ _ => rfl))
            (pa_cons (pcS FM hr (fun σ => passK tk σ) (pa_cons (pe_ix ix_dt (pv 4) pe_int (fun _ _ => rfl)) pa_nil)) (pa_cons (pe_ix ix_dt (pv 4) pe_int (fun _ _ => rfl)) pa_nil)))) pa_nil))))
          (fun a pn => mkM X (roomH_mark (hr.mono (by decide)) _) (pa_cons pe_str (pa_cons (pv 3) pa_nil))))))))
      (pss_one (ps_ret (pe_callTy call_tuple_of (by rfl) B.tuple b_tuple (pa_cons (pv 2) pa_nil)))))), ?_⟩
    have sz3 : 3 ≤ sizeLine := by show 3 ≤ sizeLine; decide
    have szl : 4000 ≤ sizeLine := by show 4000 ≤ sizeLine; decide +kernel
    -- the errors ahead of the loop
    have bad1 : ∀ H1, Same H H1 → (∀ ds, seqOf d = some ds → 4000 < ds.length) → (tMkM C (tCons (tC (.str "arrows")) (tCons (tUn (rU fun i => .int (-i)) (tC (.int 1))) tNil))) [some (.int n), some v, none, none, none] H1 fun cls d H => E cls d H := fun H1 s1 z => by
      refine ⟨_, rfl, "arrows", -1, rfl, by decide +kernel, by decide +kernel, fun dd nd => ?_⟩
      exact ke (-1) (.inl ⟨z, rfl⟩) dd _ (same_up s1 nd) (s1.free nd) upd_same
    refine ⟨v, N, d, rfl, hd, fun H1 s1 => ?_⟩
    cases hs : seqOf d with
    | none => exact iteT (iteT (bad1 H1 s1 fun ds z => by rw [hs] at z; cases z))
    | some ds =>
      have hd1 := hd.same s1
      refine iteF ⟨_, rfl, N, d, v, ds, rfl, hd1, hs, _, _, rfl, rfl, _, rfl, ?_⟩
      refine ite2 (fun c => bad1 H1 s1 fun ds' z => ?_) (fun c => ?_)
      · rw [hs] at z; cases z
        have c' : (4000 : Int) < ((ds.length : Nat) : Int) := of_decide_eq_true c
        omega
      have hlen : ds.length ≤ 4000 := by
        have c' : ¬ (4000 : Int) < ((ds.length : Nat) : Int) := fun z => c (decide_eq_true z)
        omega
      refine ⟨(by show 0 ≤ sizeLine; omega), fun a na => ?_⟩
      have ha : H a = none := s1.free na
      have hdx := hd.off ha
      refine ⟨_, rfl, Nx N a, d, v, ds, rfl, hdx.same (same_up s1 na), hs, ?_⟩
      refine for_enD hs (LpS N H n v a (chkAr n) encAr ds) ⟨none, none, [], [], rfl, same_up s1 na, upd_same, rfl, .nil⟩ (fun i σ H' _ ⟨x, y, vs, ls, e1, s2, _⟩ => hdx.same s2) (fun i e y T σ H2 hi hp nT hy => ?_) (fun σ H2 hp => ?_)
      · obtain ⟨x0, y0, vs, ls, rfl, s2, hl, hm, hdl⟩ := hp
        refine ⟨T, _, rfl, SqT.of upd_same, rfl, _, _, rfl, _, _, rfl, rfl, ?_⟩
        have s3 := same_up (o := .tup [.int (i : Nat), y]) s2 nT
        have hy3 := hy.same (same_new (o := .tup [.int (i : Nat), y]) nT)
        have hil : i < ds.length := (List.getElem?_eq_some_iff.mp hi).1
        have hi60 : i < 4000 := by omega
        have bad2 : ∀ H1, Same H H1 → chkAr n e = none → (tMkM C (tCons (tC (.str "arrows")) (tCons (tVar 3) tNil))) [some (.int n), some v, some (.ref a), some (.int (i : Nat)), some y] H1 fun cls d H => E cls d H := fun H1 s1 z => by
          refine ⟨_, rfl, "arrows", _, rfl, by decide +kernel, by omega, fun dd nd => ?_⟩
          exact ke _ (.inr ⟨ds, i, e, ls, hs, hlen, rfl, hi, z, hm⟩) dd _ (same_up s1 nd) (s1.free nd) upd_same
        refine ⟨y, _, e, rfl, hy3, fun H4 s4 => ?_⟩
        have s34 := s3.trans s4
        have hy4 := hy3.same s4
        cases hq : seqOf e with
        | none => exact iteT (iteT (bad2 H4 s34 (by unfold chkAr; rw [hq])))
        | some es =>
          refine iteF ⟨_, rfl, _, e, y, es, rfl, hy4, hq, _, _, rfl, rfl, _, rfl, ?_⟩
          refine itn (fun e2 => bad2 H4 s34 ?_) (fun e2 => ?_)
          · unfold chkAr; rw [hq]
            match es, e2 with
            | [], _ => rfl
            | [_], _ => rfl
            | [_, _], _ => rfl
            | [_, _, _], e2 => exact absurd rfl e2
            | _ :: _ :: _ :: _ :: _, _ => rfl
          match es, hq, e2 with
          | [], _, e2 => exact absurd e2 (by simp)
          | [_], _, e2 => exact absurd e2 (by simp)
          | [_, _], _, e2 => exact absurd e2 (by simp)
          | _ :: _ :: _ :: _ :: _, _, e2 => exact absurd e2 (by simp only [List.length_cons]; omega)
          | [p, m, q], hq, _ =>
            have cs : chkAr n e = chkA3 n p m q := by unfold chkAr; rw [hq]
            refine ⟨_, rfl, _, e, _, 0, p, hy4, rfl, hq, rfl, fun v1 h1 => ⟨_, rfl, _, _, rfl, rfl, _, p, v1, 0, n - 1, rfl, h1, _, rfl, ?_⟩⟩
            refine itnb (fun e3 => iteT (bad2 H4 s34 (by rw [cs]; exact if_neg fun z => by rw [e3] at z; cases z.1))) (fun e3 => ?_)
            refine ⟨_, rfl, _, e, _, 2, q, hy4, rfl, hq, rfl, fun v2 h2 => ⟨_, rfl, _, _, rfl, rfl, _, q, v2, 0, n - 1, rfl, h2, _, rfl, ?_⟩⟩
            refine itnb (fun e4 => bad2 H4 s34 (by rw [cs]; exact if_neg fun z => by rw [e4] at z; cases z.2)) (fun e4 => ?_)
            obtain ⟨zp, rfl, _, _⟩ := wIn_int e3
            obtain ⟨zq, rfl, _, _⟩ := wIn_int e4
            have cs' : chkAr n e = (chkM m).map fun l => (zp, l, zq) := by rw [cs]; exact if_pos ⟨e3, e4⟩
            have hl4 : H4 a = some (.lst vs) := s4 _ _ (by rw [upd_ne (ne_of_none hl nT)]; exact hl)
            have hlv : vs.length = i := by
              have e1 := hdl.len
              have e2 := congrArg List.length hm
              simp only [List.length_map, List.length_take] at e1 e2
              omega
            refine ⟨_, rfl, .inl ⟨rfl, vs, SqL.of hl4⟩, ?_⟩
            refine ⟨_, rfl, _, e, _, 0, _, hy4, rfl, hq, rfl, fun v3 h3 => ⟨_, rfl, _, e, _, 1, _, hy4, rfl, hq, rfl, fun v4 h4 => ?_⟩⟩
            refine ⟨_, m, v4, rfl, h4, (fn.same s34).off hl4, fun l hml pm H5 s5 hpm => ?_, fun hmn H5 s5 => ?_⟩
            · have hl5 : H5 a = some (.lst vs) := s5 _ _ hl4
              have hy5 := hy4.same s5
              refine ⟨_, rfl, _, e, _, 2, _, hy5, rfl, hq, rfl, fun v5 h5 => ⟨sz3, fun p np => ?_⟩⟩
              have npa : a ≠ p := ne_of_none hl5 np
              refine ⟨a, vs, .ref p, rfl, rfl, by rw [upd_ne npa]; exact hl5, by omega, ?_⟩
              have s35 := s34.trans s5
              have s6 := same_up (o := .tup [v3, pm, v5]) s35 np
              have s25 : Same H2 H5 := ((same_new nT).trans s4).trans s5
              refine ⟨_, _, _, ls ++ [(zp, l, zq)], rfl, fun b o hb => ?_, upd_same, take_succ' hi (by rw [cs', hml]; rfl) hm, ?_⟩
              · rw [upd_ne (fun z => by rw [z, ha] at hb; cases hb)]; exact s6 b o hb
              · rw [List.map_append]
                refine DtL.app (((hdl.same s25).same (same_new np)).kp .putx) (.one ?_)
                exact (Dt.newT ⟨fn _ (s35.free np), Ne.symm npa⟩ np (.cons (h3.same s5) (.cons hpm (.cons h5 .nil)))).kp .putx
            · exact ⟨M.MM, bad2 H5 (s34.trans s5) (by rw [cs', hmn]; rfl)⟩
      · obtain ⟨x0, y0, vs, ls, rfl, s2, hl, hm, hdl⟩ := hp
        refine ⟨_, rfl, a, vs, rfl, .inl ⟨SqL.of hl, fun p np => ?_⟩⟩
        refine kq ls ⟨ds, hs, hlen, by rw [← hm, List.take_length]⟩ _ _ (same_up s2 np) ?_
        exact (Dt.newT ⟨fn _ (s2.free np), Ne.symm (ne_of_none hl np)⟩ np hdl).sub Nx.sub
end
end K8
set_option maxRecDepth 100000
set_option maxHeartbeats 1000000
/-! P7: widest_of, block_of. -/
namespace K8
open PySem PySem.Spec PyProof.Rows L2 L2H

/-- a move's words and numbers -/
def Lt.parts : Lt → Str × List Int
  | .set v => ("set", [v])
  | .add v => ("add", [v])
  | .turn => ("turn", [])
  | .mod v => ("mod", [v])
def Ts.parts : Ts → Str × List Int
  | .below v => ("below", [v])
  | .is v => ("is", [v])
  | .rest m r => ("rest", [m, r])
def Mv.parts : Mv → Option (Str × Str × List Int)
  | .stay => none
  | .deed l => some ("deed", l.parts)
  | .so t => some ("so", t.parts)
  | .nt t => some ("not", t.parts)
def encP : Option (Str × Str × List Int) → PyData
  | none => .tuple [.str "stay"]
  | some (w, w', ks) => .tuple [.str w, .tuple (.str w' :: ks.map .int)]
theorem Mv.enc_parts : ∀ m : Mv, m.enc = encP m.parts
  | .stay => rfl
  | .deed (.set _) => rfl
  | .deed (.add _) => rfl
  | .deed .turn => rfl
  | .deed (.mod _) => rfl
  | .so (.below _) => rfl
  | .so (.is _) => rfl
  | .so (.rest _ _) => rfl
  | .nt (.below _) => rfl
  | .nt (.is _) => rfl
  | .nt (.rest _ _) => rfl
def mx (i j : Int) : Int := if j > i then j else i
def ab (i : Int) : Int := if i < 0 then -i else i
/-- the rim -/
def widS (m : Int) (p : Int × Int) : Int := mx m (ab p.2)
def widP (m : Int) : Option (Str × Str × List Int) → Int
  | some (_, _, k :: _) => mx m (ab k)
  | _ => m
def widA (m : Int) (a : Ar) : Int := widP m a.2.1.parts
def rimOf (ss : List (Int × Int)) (as : List Ar) : Int := as.foldl widA (ss.foldl widS 1)
/-- the block -/
def lcmI (a b : Int) : Int := ((Nat.lcm a.natAbs b.natAbs : Nat) : Int)
def blkP (p : Int × Int) : Option (Str × Str × List Int) → Int × Int
  | some (_, w', k :: _) => (if w' = "add" then mx p.1 (ab k) else p.1, if w' = "mod" ∨ w' = "rest" then lcmI p.2 k else p.2)
  | _ => p
def blkA (p : Int × Int) (a : Ar) : Int × Int := blkP p a.2.1.parts
def blkOf (as : List Ar) : Int := let p := as.foldl blkA (1, 1); p.2 * ((p.1 + p.2 - 1) / p.2)
/-- numbers that check_letter, check_test let through -/
def Lt.rng : Lt → Prop
  | .set v => -20 ≤ v ∧ v ≤ 20
  | .add v => -20 ≤ v ∧ v ≤ 20
  | .turn => True
  | .mod v => 1 ≤ v ∧ v ≤ 6
def Ts.rng : Ts → Prop
  | .below v => -20 ≤ v ∧ v ≤ 20
  | .is v => -20 ≤ v ∧ v ≤ 20
  | .rest m r => 1 ≤ m ∧ m ≤ 6 ∧ 0 ≤ r ∧ r < m
def Mv.rng : Mv → Prop
  | .stay => True
  | .deed l => l.rng
  | .so t => t.rng
  | .nt t => t.rng
/-- .. by the parts -/
def rngP : Option (Str × Str × List Int) → Prop
  | none => True
  | some (_, w', ks) => (ks = [] → w' = "turn") ∧ (w' = "turn" → ks = []) ∧ ∀ k r, ks = k :: r → -20 ≤ k ∧ k ≤ 20 ∧ (w' = "mod" ∨ w' = "rest" → 1 ≤ k ∧ k ≤ 6)
theorem rngP_one {w w' : Str} {k : Int} {r : List Int} (ht : w' ≠ "turn") (h1 : -20 ≤ k) (h2 : k ≤ 20) (h : w' = "mod" ∨ w' = "rest" → 1 ≤ k ∧ k ≤ 6) : rngP (some (w, w', k :: r)) :=
  ⟨fun e => (by cases e), fun e => absurd e ht, fun k' r' e => by cases e; exact ⟨h1, h2, h⟩⟩
theorem Lt.rngP {w : Str} : ∀ {l : Lt}, l.rng → K8.rngP (some (w, l.parts))
  | .set v, h => rngP_one (by decide +kernel) h.1 h.2 fun e => absurd e (by decide +kernel)
  | .add v, h => rngP_one (by decide +kernel) h.1 h.2 fun e => absurd e (by decide +kernel)
  | .turn, h => ⟨fun _ => rfl, fun _ => rfl, fun k r e => by cases e⟩
  | .mod v, h => rngP_one (by decide +kernel) (by have := h.1; omega) (by have := h.2; omega) fun _ => h
theorem Ts.rngP {w : Str} : ∀ {l : Ts}, l.rng → K8.rngP (some (w, l.parts))
  | .below v, h => rngP_one (by decide +kernel) h.1 h.2 fun e => absurd e (by decide +kernel)
  | .is v, h => rngP_one (by decide +kernel) h.1 h.2 fun e => absurd e (by decide +kernel)
  | .rest v _, h => rngP_one (by decide +kernel) (by have := h.1; omega) (by have := h.2.1; omega) fun _ => ⟨h.1, h.2.1⟩
theorem Mv.rngP : ∀ {m : Mv}, m.rng → K8.rngP m.parts
  | .stay, _ => trivial
  | .deed l, h => Lt.rngP h
  | .so t, h => Ts.rngP h
  | .nt t, h => Ts.rngP h
theorem Mv.okr : ∀ {m : Mv}, m.rng → m.ok
  | .stay, _ => trivial
  | .deed (.set _), _ => trivial
  | .deed (.add _), _ => trivial
  | .deed .turn, _ => trivial
  | .deed (.mod v), h => (by have h1 : 1 ≤ v := h.1; show 0 < v; omega)
  | .so (.below _), _ => trivial
  | .so (.is _), _ => trivial
  | .so (.rest m r), h => ⟨by have h1 : 1 ≤ m := h.1; omega, h.2.2.1, h.2.2.2⟩
  | .nt (.below _), _ => trivial
  | .nt (.is _), _ => trivial
  | .nt (.rest m r), h => ⟨by have h1 : 1 ≤ m := h.1; omega, h.2.2.1, h.2.2.2⟩
section
variable {X : Cx}
def rLcm : List V → Hp → VK → Prop := fun vs H Q => ∃ a b : Int, vs = [.int a, .int b] ∧ a.natAbs < 2 ^ 20 ∧ b.natAbs < 2 ^ 20 ∧ Q (.int (lcmI a b)) H
theorem cr_lcm : CallR X (.builtin "math.lcm") rLcm := by
  intro pins s σ H xs us Q I r ⟨a, b, e, h1, h2, q⟩
  subst e
  cases r with
  | cons r rr =>
    cases rr with
    | cons r' rr =>
      cases rr
      obtain ⟨t, rfl⟩ := r
      obtain ⟨t', rfl⟩ := r'
      have hl : lcmI a b = (((Nat.lcm 1 a.natAbs).lcm b.natAbs : Nat) : Int) := by rw [Nat.lcm_one_left]; rfl
      refine PySem.W.mg_lcm_v (by omega) (by omega) hl.symm ?_ ⟨.int _, H, I.tok _, ⟨_, rfl⟩, q⟩
      have h3 : (lcmI a b).natAbs ≤ a.natAbs * b.natAbs := by
        show (((Nat.lcm a.natAbs b.natAbs : Nat) : Int)).natAbs ≤ _
        rw [Int.natAbs_natCast]
        by_cases h0 : a.natAbs * b.natAbs = 0
        · rw [h0]
          rcases Nat.mul_eq_zero.mp h0 with z | z
          · rw [z, Nat.lcm_zero_left]; exact Nat.le_refl _
          · rw [z, Nat.lcm_zero_right]; exact Nat.le_refl _
        · exact Nat.le_of_dvd (Nat.pos_of_ne_zero h0) (Nat.lcm_dvd_mul _ _)
      have h4 : a.natAbs * b.natAbs < 2 ^ 40 := by
        have := Nat.mul_lt_mul'' h1 h2
        calc a.natAbs * b.natAbs < 2 ^ 20 * 2 ^ 20 := this
          _ = 2 ^ 40 := by decide
      have h5 := log_60 (n := (lcmI a b).natAbs) (by omega)
      exact Nat.lt_trans h5 (by decide +kernel)
end
theorem foldl_take {α β : Type} {f : β → α → β} {b : β} {ls : List α} {i : Nat} {x : α} (h : ls[i]? = some x) : (ls.take (i + 1)).foldl f b = f ((ls.take i).foldl f b) x := by
  rw [List.take_add_one, h, List.foldl_append]; rfl
theorem map_get {α β : Type} {f : α → β} {ls : List α} {i : Nat} {y : β} (h : (ls.map f)[i]? = some y) : ∃ x, ls[i]? = some x ∧ y = f x := by
  rw [List.getElem?_map] at h
  cases hx : ls[i]? with
  | none => rw [hx] at h; cases h
  | some x => rw [hx] at h; exact ⟨x, rfl, (Option.some.inj h).symm⟩
section
variable {P : Program} {w : World} {K : PySem.W.Frag} {mg : Str → Option Value} {base : Heap}
def spWide : Sp := fun vs H Q _ => ∃ (N : Addr → Prop) (ss : List (Int × Int)) (as : List Ar) (v1 v2 : V), vs = [v1, v2] ∧ Dt N H (.tuple (ss.map encSt)) v1 ∧ Dt N H (.tuple (as.map encAr)) v2 ∧ (∀ a ∈ as, a.2.1.rng) ∧ Q (.int (rimOf ss as)) H
theorem sc_wide : FnScope ["starts", "arrows", "most", "start", "arrow"] ["starts", "arrows"] (defScope (top 18)) := ⟨rfl, rfl, rfl, by decide +kernel, rfl, by decide +kernel, by decide +kernel⟩
theorem ok_wide (B : Bn mg) (D : Dn K mg "widest_of" 18 ["starts", "arrows"]) : Ok P w K mg base CX0 1 "widest_of" ["starts", "arrows"] spWide := by
  refine D.ok sc_wide (fun vs H Q E h => ?_) (fun f cdv A outer s H vs Q E hr h => ?_)
  · obtain ⟨N, ss, as, v1, v2, rfl, _⟩ := h; rfl
  · obtain ⟨N, ss, as, v1, v2, rfl, hd1, hd2, hrg, k⟩ := h
    refine ⟨_, pss_cons (ps_set (i := 2) sc_wide.nd rfl (Or.inl rfl) pe_int)
      (pss_cons (ps_for PassesOwn.never rfl (pi_dt (pv 0)) (pg_name (i := 3) sc_wide.nd rfl (Or.inl rfl))
        (pss_one (ps_set (i := 2) sc_wide.nd rfl (Or.inl rfl) (pe_callB (call_max2 rfl) (by rfl) B.max b_max (pa_cons (pv 2) (pa_cons (pe_callB call_abs (by rfl) B.abs b_abs (pa_cons (pe_ix ix_dt (pv 3) pe_int (fun _ _ => rfl)) pa_nil)) pa_nil))))))
      (pss_cons (ps_for PassesOwn.never rfl (pi_dt (pv 1)) (pg_name (i := 4) sc_wide.nd rfl (Or.inl rfl))
        (pss_one (ps_if (PW.pt (pw_and (pt_cmpR eqI (pe_callB len_dt (by rfl) B.len b_len (pa_cons (pe_ix ix_dt (pv 4) pe_int (fun _ _ => rfl)) pa_nil)) pe_int (nomark _))
            (pw_and1 (pt_cmpR op_gt (pe_callB len_dt (by rfl) B.len b_len (pa_cons (pe_ix ix_dt (pe_ix ix_dt (pv 4) pe_int (fun _ _ => rfl)) pe_int (fun _ _ => rfl)) pa_nil)) pe_int (nomark _)))))
          (pss_one (ps_set (i := 2) sc_wide.nd rfl (Or.inl rfl) (pe_callB (call_max2 rfl) (by rfl) B.max b_max (pa_cons (pv 2) (pa_cons (pe_callB call_abs (by rfl) B.abs b_abs
            (pa_cons (pe_ix ix_dt (pe_ix ix_dt (pe_ix ix_dt (pv 4) pe_int (fun _ _ => rfl)) pe_int (fun _ _ => rfl)) pe_int (fun _ _ => rfl)) pa_nil)) pa_nil))))) pss_nil)))
      (pss_one (ps_ret (pv 2))))), ?_⟩
    -- the state of both loops
    refine ⟨v1, rfl, N, _, _, hd1, rfl, for_dt rfl (fun i σ H' => H' = H ∧ ∃ x y, σ = [some v1, some v2, some (.int ((ss.take i).foldl widS 1)), x, y]) ⟨rfl, none, none, rfl⟩ (fun i σ H' _ p => by rw [p.1]; exact hd1) (fun i e y σ H' hi p hy => ?_) (fun σ H' p => ?_)⟩
    · obtain ⟨rfl, x0, y0, rfl⟩ := p
      obtain ⟨st, hst, rfl⟩ := map_get hi
      refine ⟨_, rfl, _, rfl, N, _, _, 1, _, hy, rfl, rfl, rfl, fun v5 h5 => ?_⟩
      cases h5
      refine ⟨_, rfl, _, _, rfl, ?_⟩
      exact ⟨rfl, some y, y0, by rw [foldl_take hst]; rfl⟩
    · obtain ⟨rfl, x0, y0, rfl⟩ := p
      rw [List.length_map, List.take_length]
      refine ⟨v2, rfl, N, _, _, hd2, rfl, for_dt rfl (fun i σ H'' => H'' = H' ∧ ∃ x y, σ = [some v1, some v2, some (.int ((as.take i).foldl widA (ss.foldl widS 1))), x, y]) ⟨rfl, x0, y0, rfl⟩ (fun i σ H'' _ p => by rw [p.1]; exact hd2) (fun i e y σ H'' hi p hy => ?_) (fun σ H'' p => ?_)⟩
      · obtain ⟨rfl, x0, y0, rfl⟩ := p
        obtain ⟨a, hst, rfl⟩ := map_get hi
        obtain ⟨s1, m, s2⟩ := a
        have hm := Mv.rngP (hrg _ (List.mem_of_getElem? hst))
        have fin : ∀ {σ : L2.St} {H : Hp} {R : L2.St → Hp → Prop}, R σ H → R σ H := fun h => h
        refine ⟨_, rfl, N, _, _, 1, _, hy, rfl, rfl, rfl, fun v5 h5 => ?_⟩
        have h5' : Dt N H'' m.enc v5 := h5
        rw [Mv.enc_parts] at h5'
        have hw : widA ((as.take i).foldl widA (ss.foldl widS 1)) (s1, m, s2) = widP ((as.take i).foldl widA (ss.foldl widS 1)) m.parts := rfl
        cases hp : m.parts with
        | none =>
          rw [hp] at h5' hw
          refine ⟨N, _, v5, _, rfl, h5', rfl, _, _, rfl, rfl, _, rfl, itno (decide_eq_false (by simp)) (iteF ?_)⟩
          exact ⟨rfl, x0, some y, by rw [foldl_take hst, hw]; rfl⟩
        | some t =>
          obtain ⟨w1, w2, ks⟩ := t
          rw [hp] at h5' hw hm
          refine ⟨N, _, v5, _, rfl, h5', rfl, _, _, rfl, rfl, _, rfl, ity (decide_eq_true rfl) ?_⟩
          refine ⟨_, rfl, N, _, _, 1, _, hy, rfl, rfl, rfl, fun v6 h6 => ?_⟩
          have h6' : Dt N H'' m.enc v6 := h6
          rw [Mv.enc_parts, hp] at h6'
          refine ⟨N, _, _, 1, _, h6', rfl, rfl, rfl, fun v7 h7 => ⟨N, _, v7, _, rfl, h7, rfl, _, _, rfl, rfl, _, rfl, ?_⟩⟩
          match ks, h6', hw, hm, h7 with
          | [], h6', hw, hm, h7 =>
            refine itno (decide_eq_false (by simp)) ?_
            exact ⟨rfl, x0, some y, by rw [foldl_take hst, hw]; rfl⟩
          | kk :: r, h6', hw, hm, h7 =>
            refine ity (decide_eq_true (by simp only [List.map_cons, List.length_cons]; omega)) ?_
            refine ⟨_, rfl, _, rfl, N, _, _, 1, _, hy, rfl, rfl, rfl, fun v8 h8 => ?_⟩
            have h8' : Dt N H'' m.enc v8 := h8
            rw [Mv.enc_parts, hp] at h8'
            refine ⟨N, _, _, 1, _, h8', rfl, rfl, rfl, fun v9 h9 => ⟨N, _, _, 1, _, h9, rfl, rfl, rfl, fun v10 h10 => ?_⟩⟩
            cases h10
            refine ⟨_, rfl, _, _, rfl, ?_⟩
            exact ⟨rfl, x0, some y, by rw [foldl_take hst, hw]; rfl⟩
      · obtain ⟨rfl, x0, y0, rfl⟩ := p
        rw [List.length_map, List.take_length]
        exact ⟨_, rfl, k⟩
end
end K8
set_option maxRecDepth 100000
set_option maxHeartbeats 1000000
/-! P8: block_of. -/
namespace K8
open PySem PySem.Spec PyProof.Rows L2 L2H

def BlkOk (p : Int × Int) : Prop := 1 ≤ p.1 ∧ p.1 ≤ 20 ∧ 1 ≤ p.2 ∧ p.2 ∣ 60
theorem dvd60_le {m : Int} (h : m ∣ 60) : m ≤ 60 := Int.le_of_dvd (by decide) h
theorem k_dvd60 {k : Int} (h1 : 1 ≤ k) (h2 : k ≤ 6) : k ∣ 60 := by
  have : k = 1 ∨ k = 2 ∨ k = 3 ∨ k = 4 ∨ k = 5 ∨ k = 6 := by omega
  rcases this with h | h | h | h | h | h <;> subst h <;> decide
theorem lcmI_ok {a k : Int} (a1 : 1 ≤ a) (ad : a ∣ 60) (k1 : 1 ≤ k) (k6 : k ≤ 6) : 1 ≤ lcmI a k ∧ lcmI a k ∣ 60 := by
  have e1 : a.natAbs ∣ 60 := by have := Int.natAbs_dvd_natAbs.mpr ad; exact this
  have e2 : k.natAbs ∣ 60 := by have := Int.natAbs_dvd_natAbs.mpr (k_dvd60 k1 k6); exact this
  have e3 : Nat.lcm a.natAbs k.natAbs ∣ 60 := Nat.lcm_dvd e1 e2
  have e4 : 0 < Nat.lcm a.natAbs k.natAbs := Nat.lcm_pos (by omega) (by omega)
  refine ⟨?_, ?_⟩
  · show (1 : Int) ≤ ((Nat.lcm a.natAbs k.natAbs : Nat) : Int); omega
  · exact Int.natCast_dvd_natCast.mpr e3
theorem ab_nn (k : Int) : ab k = k ∨ ab k = -k := by unfold ab; split <;> simp
theorem ab_le {k : Int} (h1 : -20 ≤ k) (h2 : k ≤ 20) : ab k ≤ 20 := by unfold ab; split <;> omega
theorem mx_le {a b c : Int} (h1 : a ≤ c) (h2 : b ≤ c) : mx a b ≤ c := by unfold mx; split <;> omega
theorem le_mx {a b c : Int} (h1 : c ≤ a) : c ≤ mx a b := by unfold mx; split <;> omega
theorem BlkOk.step {p : Int × Int} {t : Option (Str × Str × List Int)} (h : BlkOk p) (r : rngP t) : BlkOk (blkP p t) := by
  obtain ⟨h1, h2, h3, h4⟩ := h
  match t, r with
  | none, _ => exact ⟨h1, h2, h3, h4⟩
  | some (_, w', []), _ => exact ⟨h1, h2, h3, h4⟩
  | some (w, w', k :: ks), r =>
    obtain ⟨r1, r2, r3⟩ := r.2.2 k ks rfl
    have e : blkP p (some (w, w', k :: ks)) = (if w' = "add" then mx p.1 (ab k) else p.1, if w' = "mod" ∨ w' = "rest" then lcmI p.2 k else p.2) := rfl
    rw [e]
    have a1 : 1 ≤ (if w' = "add" then mx p.1 (ab k) else p.1) ∧ (if w' = "add" then mx p.1 (ab k) else p.1) ≤ 20 := by
      by_cases c : w' = "add"
      · rw [if_pos c]; exact ⟨le_mx h1, mx_le h2 (ab_le r1 r2)⟩
      · rw [if_neg c]; exact ⟨h1, h2⟩
    have a2 : 1 ≤ (if w' = "mod" ∨ w' = "rest" then lcmI p.2 k else p.2) ∧ (if w' = "mod" ∨ w' = "rest" then lcmI p.2 k else p.2) ∣ 60 := by
      by_cases c : w' = "mod" ∨ w' = "rest"
      · rw [if_pos c]; exact lcmI_ok h3 h4 (r3 c).1 (r3 c).2
      · rw [if_neg c]; exact ⟨h3, h4⟩
    exact ⟨a1.1, a1.2, a2.1, a2.2⟩
theorem BlkOk.foldl {as : List Ar} (h : ∀ a ∈ as, a.2.1.rng) : ∀ {p : Int × Int}, BlkOk p → BlkOk (as.foldl blkA p) := by
  induction as with
  | nil => exact fun h => h
  | cons a r ih =>
    intro p hp
    exact ih (fun a m => h a (List.mem_cons_of_mem _ m)) (hp.step (Mv.rngP (h a List.mem_cons_self)))
def deedP : Option (Str × Str × List Int) → Str × List Int
  | none => ("stay", [])
  | some (_, w', ks) => (w', ks)
section
variable {P : Program} {w : World} {K : PySem.W.Frag} {mg : Str → Option Value} {base : Heap}
def spBlock : Sp := fun vs H Q _ => ∃ (N : Addr → Prop) (as : List Ar) (v : V), vs = [v] ∧ Dt N H (.tuple (as.map encAr)) v ∧ (∀ a ∈ as, a.2.1.rng) ∧ ∀ H', Same H H' → Q (.int (blkOf as)) H'
theorem sc_block : FnScope ["arrows", "step", "modulus", "arrow", "deed"] ["arrows"] (defScope (top 19)) := ⟨rfl, rfl, rfl, by decide +kernel, rfl, by decide +kernel, by decide +kernel⟩
theorem ok_block (B : Bn mg) (D : Dn K mg "block_of" 19 ["arrows"]) : Ok P w K mg base CX0 1 "block_of" ["arrows"] spBlock := by
  refine D.ok sc_block (fun vs H Q E h => ?_) (fun f cdv A outer s H vs Q E hr h => ?_)
  · obtain ⟨N, as, v, rfl, _⟩ := h; rfl
  · obtain ⟨N0, as, v, rfl, hd0, hrg, k⟩ := h
    have hd := hd0.sub (N' := fun _ => True) fun _ _ => trivial
    refine ⟨_, pss_cons (ps_set (i := 1) sc_block.nd rfl (Or.inl rfl) pe_int)
      (pss_cons (ps_set (i := 2) sc_block.nd rfl (Or.inl rfl) pe_int)
      (pss_cons (ps_for PassesOwn.never rfl (pi_dt (pv 0)) (pg_name (i := 3) sc_block.nd rfl (Or.inl rfl))
        (pss_cons (ps_set (i := 4) sc_block.nd rfl (Or.inl rfl) (pe_ifExp (pt_cmpR eqI (pe_callB len_dt (by rfl) B.len b_len (pa_cons (pe_ix ix_dt (pv 3) pe_int (fun _ _ => rfl)) pa_nil)) pe_int (nomark _))
            (pe_ix ix_dt (pe_ix ix_dt (pv 3) pe_int (fun _ _ => rfl)) pe_int (fun _ _ => rfl)) (pe_tup (pa_cons pe_str pa_nil))))
        (pss_cons (ps_if (pt_cmpR eqS (pe_ix ix_dt (pv 4) pe_int (fun _ _ => rfl)) pe_str (nomark _))
          (pss_one (ps_set (i := 1) sc_block.nd rfl (Or.inl rfl) (pe_callB (call_max2 rfl) (by rfl) B.max b_max (pa_cons (pv 1) (pa_cons (pe_callB call_abs (by rfl) B.abs b_abs (pa_cons (pe_ix ix_dt (pv 4) pe_int (fun _ _ => rfl)) pa_nil)) pa_nil))))) pss_nil)
        (pss_one (ps_if (pt_cmpR inSs (pe_ix ix_dt (pv 4) pe_int (fun _ _ => rfl)) (pe_tup (pa_cons pe_str (pa_cons pe_str pa_nil))) rfl)
          (pss_one (ps_set (i := 2) sc_block.nd rfl (Or.inl rfl) (pe_callBfun cr_lcm (by rfl) B.lcm (pa_cons (pv 2) (pa_cons (pe_ix ix_dt (pv 4) pe_int (fun _ _ => rfl)) pa_nil))))) pss_nil)))))
      (pss_one (ps_ret (pe_op op_mul (pv 2) (pe_op op_fdiv (pe_op op_sub (pe_op op_add (pv 1) (pv 2)) pe_int) (pv 2))))))), ?_⟩
    have sz1 : 1 ≤ sizeLine := by show 1 ≤ sizeLine; decide
    have sz2 : 2 ≤ sizeLine := by show 2 ≤ sizeLine; decide
    refine ⟨v, rfl, fun _ => True, _, _, hd, rfl, for_dt rfl (fun i σ H' => Same H H' ∧ ∃ x y, σ = [some v, some (.int ((as.take i).foldl blkA (1, 1)).1), some (.int ((as.take i).foldl blkA (1, 1)).2), x, y]) ⟨Same.refl _, none, none, rfl⟩ (fun i σ H' _ p => hd.same p.1) (fun i e y σ H' hi p hy => ?_) (fun σ H' p => ?_)⟩
    · obtain ⟨s1, x0, y0, rfl⟩ := p
      obtain ⟨a, hst, rfl⟩ := map_get hi
      obtain ⟨a1, m, a2⟩ := a
      have hm := Mv.rngP (hrg _ (List.mem_of_getElem? hst))
      have hb : BlkOk ((as.take i).foldl blkA (1, 1)) := BlkOk.foldl (fun a ha => hrg a (List.mem_of_mem_take ha)) ⟨by decide, by decide, by decide, by decide⟩
      have hw : (as.take (i + 1)).foldl blkA (1, 1) = blkP ((as.take i).foldl blkA (1, 1)) m.parts := foldl_take hst
      rw [hw]
      generalize (as.take i).foldl blkA (1, 1) = pp at hb
      obtain ⟨st, md⟩ := pp
      refine ⟨_, rfl, _, _, _, 1, _, hy, rfl, rfl, rfl, fun v5 h5 => ?_⟩
      have h5' : Dt (fun _ => True) H' m.enc v5 := h5
      rw [Mv.enc_parts] at h5'
      cases hp : m.parts with
      | none =>
        rw [hp] at h5'
        refine ⟨_, _, v5, _, rfl, h5', rfl, _, _, rfl, rfl, _, rfl, itno (decide_eq_false (by simp)) ⟨sz1, fun q nq => ?_⟩⟩
        have hz : Dt (fun _ => True) (upd H' q (.tup [.str "stay"])) (.tuple [.str "stay"]) (.ref q) := Dt.newT trivial nq (.cons (.str _) .nil)
        refine ⟨_, rfl, _, _, _, 0, _, hz, rfl, rfl, rfl, fun v6 h6 => ?_⟩
        cases h6
        refine ⟨_, _, rfl, rfl, _, rfl, itno (by decide +kernel) ⟨_, rfl, _, _, _, 0, _, hz, rfl, rfl, rfl, fun v6 h6 => ?_⟩⟩
        cases h6
        refine ⟨sz2, fun q2 nq2 => ⟨_, q2, ["mod", "rest"], rfl, rfl, .inl upd_same, _, rfl, itno (by decide +kernel) ⟨same_up (same_up s1 nq) nq2, some y, some (.ref q), rfl⟩⟩⟩
      | some t =>
        obtain ⟨w1, w2, ks⟩ := t
        rw [hp] at h5' hm
        refine ⟨_, _, v5, _, rfl, h5', rfl, _, _, rfl, rfl, _, rfl, ity (decide_eq_true rfl) ?_⟩
        refine ⟨_, rfl, _, _, _, 1, _, hy, rfl, rfl, rfl, fun v6 h6 => ?_⟩
        have h6' : Dt (fun _ => True) H' m.enc v6 := h6
        rw [Mv.enc_parts, hp] at h6'
        refine ⟨_, _, _, 1, _, h6', rfl, rfl, rfl, fun z hz => ?_⟩
        refine ⟨_, rfl, _, _, _, 0, _, hz, rfl, rfl, rfl, fun v7 h7 => ?_⟩
        cases h7
        refine ⟨_, _, rfl, rfl, _, rfl, ?_⟩
        have dsec : ∀ {q2 : Addr}, decide (w2 ∈ [Str.ofString "mod", Str.ofString "rest"]) = decide (w2 = "mod" ∨ w2 = "rest") := by simp
        match ks, hm, hz with
        | [], hm, hz =>
          have ht := hm.1 rfl
          refine itno (by rw [ht]; decide +kernel) ⟨_, rfl, _, _, _, 0, _, hz, rfl, rfl, rfl, fun v6 h6 => ?_⟩
          cases h6
          refine ⟨sz2, fun q2 nq2 => ⟨_, q2, ["mod", "rest"], rfl, rfl, .inl upd_same, _, rfl, itno (by rw [ht]; decide +kernel) ⟨same_up s1 nq2, some y, some z, rfl⟩⟩⟩
        | k :: r, hm, hz =>
          obtain ⟨r1, r2, r3⟩ := hm.2.2 k r rfl
          have ep : blkP (st, md) (some (w1, w2, k :: r)) = (if w2 = "add" then mx st (ab k) else st, if w2 = "mod" ∨ w2 = "rest" then lcmI md k else md) := rfl
          rw [ep]
          by_cases c1 : w2 = "add"
          · have c2 : ¬ (w2 = "mod" ∨ w2 = "rest") := by rw [c1]; decide +kernel
            refine ity (decide_eq_true c1) ?_
            refine ⟨_, rfl, _, rfl, _, _, _, 1, _, hz, rfl, rfl, rfl, fun v8 h8 => ?_⟩
            cases h8
            refine ⟨_, rfl, _, _, rfl, ?_⟩
            refine ⟨_, rfl, _, _, _, 0, _, hz, rfl, rfl, rfl, fun v6 h6 => ?_⟩
            cases h6
            refine ⟨sz2, fun q2 nq2 => ⟨_, q2, ["mod", "rest"], rfl, rfl, .inl upd_same, _, rfl, itno (by rw [c1]; decide +kernel) ⟨same_up s1 nq2, some y, some z, ?_⟩⟩⟩
            rw [if_pos c1, if_neg c2]; rfl
          · refine itno (decide_eq_false c1) ⟨_, rfl, _, _, _, 0, _, hz, rfl, rfl, rfl, fun v6 h6 => ?_⟩
            cases h6
            refine ⟨sz2, fun q2 nq2 => ⟨_, q2, ["mod", "rest"], rfl, rfl, .inl upd_same, _, rfl, ?_⟩⟩
            rw [if_neg c1]
            by_cases c2 : w2 = "mod" ∨ w2 = "rest"
            · have hz2 := hz.same (same_new (o := .tup [.str "mod", .str "rest"]) nq2)
              refine ity (decide_eq_true (by simpa using c2)) ?_
              refine ⟨_, rfl, _, rfl, _, _, _, 1, _, hz2, rfl, rfl, rfl, fun v8 h8 => ?_⟩
              cases h8
              have b3 : 1 ≤ md := hb.2.2.1
              have b4 : md ≤ 60 := dvd60_le hb.2.2.2
              refine ⟨md, k, rfl, by omega, by omega, same_up s1 nq2, some y, some z, ?_⟩
              rw [if_pos c2]; rfl
            · refine itno (decide_eq_false (by simpa using c2)) ⟨same_up s1 nq2, some y, some z, ?_⟩
              rw [if_neg c2]; rfl
    · obtain ⟨s1, x0, y0, rfl⟩ := p
      rw [List.length_map, List.take_length]
      have hb : BlkOk (as.foldl blkA (1, 1)) := BlkOk.foldl hrg ⟨by decide, by decide, by decide, by decide⟩
      have kk : Q (.int ((as.foldl blkA (1, 1)).2 * (((as.foldl blkA (1, 1)).1 + (as.foldl blkA (1, 1)).2 - 1) / (as.foldl blkA (1, 1)).2))) H' := k H' s1
      generalize as.foldl blkA (1, 1) = pp at hb kk
      obtain ⟨st, md⟩ := pp
      have b1 : 1 ≤ st := hb.1
      have b2 : st ≤ 20 := hb.2.1
      have b3 : 1 ≤ md := hb.2.2.1
      have b4 : md ≤ 60 := dvd60_le hb.2.2.2
      refine ⟨_, rfl, _, rfl, _, rfl, _, _, rfl, rfl, _, _, rfl, rfl, _, rfl, _, _, rfl, rfl, ⟨by omega, by omega⟩, _, _, rfl, rfl, ?_, kk⟩
      exact .inl ⟨by omega, by omega⟩
end
end K8
set_option maxRecDepth 100000
set_option maxHeartbeats 1000000
/-! P9: Machine.__init__. -/
namespace K8
open PySem PySem.Spec PyProof.Rows L2 L2H

/-! ### what the checkers let through -/
theorem chkLv_rng {w : Str} {e : PyData} {l : Lt} (h : chkLv w e = some l) : l.rng := by
  unfold chkLv at h
  split at h
  · next c =>
    obtain ⟨v, rfl, h1, h2⟩ := wIn_int c.2
    have h' : (if w = "set" then some (Lt.set v) else some (Lt.add v)) = some l := h
    by_cases e : w = "set"
    · rw [if_pos e] at h'
      cases h'; exact ⟨h1, h2⟩
    · rw [if_neg e] at h'
      cases h'; exact ⟨h1, h2⟩
  · split at h
    · next c =>
      obtain ⟨v, rfl, h1, h2⟩ := wIn_int c.2
      cases h; exact ⟨h1, h2⟩
    · cases h
theorem chkLo_rng {w : Str} {r : List PyData} {l : Lt} (h : chkLo w r = some l) : l.rng := by
  match r, h with
  | [e], h => exact chkLv_rng h
theorem chkLw_rng {w : Str} {r : List PyData} {l : Lt} (h : chkLw w r = some l) : l.rng := by
  unfold chkLw at h
  split at h
  · cases h; trivial
  · exact chkLo_rng h
theorem chkL_rng {d : PyData} {l : Lt} (h : chkL d = some l) : l.rng := by
  unfold chkL at h
  split at h
  · exact chkLw_rng h
  · cases h
theorem chkT1_rng {w : Str} {e : PyData} {l : Ts} (h : chkT1 w e = some l) : l.rng := by
  unfold chkT1 at h
  split at h
  · next c =>
    obtain ⟨v, rfl, h1, h2⟩ := wIn_int c.2
    have h' : (if w = "below" then some (Ts.below v) else some (Ts.is v)) = some l := h
    by_cases e : w = "below"
    · rw [if_pos e] at h'
      cases h'; exact ⟨h1, h2⟩
    · rw [if_neg e] at h'
      cases h'; exact ⟨h1, h2⟩
  · cases h
theorem chkT2_rng {w : Str} {e f : PyData} {l : Ts} (h : chkT2 w e f = some l) : l.rng := by
  unfold chkT2 at h
  split at h
  · next c =>
    obtain ⟨m, rfl, h1, h2⟩ := wIn_int c.2
    have h' : (if wIn f 0 (m - 1) = true then (match f with | .int q => some (Ts.rest m q) | _ => none) else none) = some l := h
    split at h'
    · next c2 =>
      obtain ⟨q, rfl, h3, h4⟩ := wIn_int c2
      cases h'
      exact ⟨h1, h2, h3, by omega⟩
    · cases h'
  · cases h
theorem chkTw_rng {w : Str} {r : List PyData} {l : Ts} (h : chkTw w r = some l) : l.rng := by
  match r, h with
  | [e], h => exact chkT1_rng h
  | [e, f], h => exact chkT2_rng h
theorem chkT_rng {d : PyData} {l : Ts} (h : chkT d = some l) : l.rng := by
  unfold chkT at h
  split at h
  · exact chkTw_rng h
  · cases h
theorem chkMo_rng {w : Str} {r : List PyData} {l : Mv} (h : chkMo w r = some l) : l.rng := by
  match r, h with
  | [e], h =>
    have h' : (if w = "deed" then (chkL e).map Mv.deed else if w = "so" then (chkT e).map .so else if w = "not" then (chkT e).map .nt else none) = some l := h
    split at h'
    · obtain ⟨x, hx, rfl⟩ := Option.map_eq_some_iff.mp h'
      exact chkL_rng hx
    · split at h'
      · obtain ⟨x, hx, rfl⟩ := Option.map_eq_some_iff.mp h'
        exact chkT_rng hx
      · split at h'
        · obtain ⟨x, hx, rfl⟩ := Option.map_eq_some_iff.mp h'
          exact chkT_rng hx
        · cases h'
theorem chkM_rng {d : PyData} {l : Mv} (h : chkM d = some l) : l.rng := by
  unfold chkM at h
  split at h
  · unfold chkMw at h
    split at h
    · cases h; trivial
    · exact chkMo_rng h
  · cases h
theorem chkAr_rng {n : Int} {d : PyData} {a : Ar} (h : chkAr n d = some a) : a.2.1.rng ∧ 0 ≤ a.1 ∧ a.1 < n := by
  unfold chkAr at h
  split at h
  · next a0 m b _ =>
    unfold chkA3 at h
    split at h
    · next c =>
      obtain ⟨x, rfl, h1, h2⟩ := wIn_int c.1
      obtain ⟨y, rfl, h3, h4⟩ := wIn_int c.2
      have h' : (chkM m).map (fun l => ((x, l, y) : Ar)) = some a := h
      obtain ⟨l, hl, rfl⟩ := Option.map_eq_some_iff.mp h'
      exact ⟨chkM_rng hl, h1, by show x < n; omega⟩
    · cases h
  · cases h
theorem okS_all {α : Type} {f : PyData → Option α} {lim : Nat} {d : PyData} {ls : List α} (h : okS f lim d ls) : ls.length ≤ lim ∧ ∀ a ∈ ls, ∃ e, f e = some a := by
  obtain ⟨ds, _, hl, hm⟩ := h
  have e := congrArg List.length hm
  simp only [List.length_map] at e
  refine ⟨by omega, fun a ha => ?_⟩
  have : some a ∈ ds.map f := by rw [hm]; exact List.mem_map.mpr ⟨a, ha, rfl⟩
  obtain ⟨x, _, hx⟩ := List.mem_map.mp this
  exact ⟨x, hx⟩
theorem okS_ar {n : Int} {d : PyData} {as : List Ar} (h : okS (chkAr n) 4000 d as) : as.length ≤ 4000 ∧ ∀ a ∈ as, a.2.1.rng ∧ 0 ≤ a.1 ∧ a.1 < n :=
  ⟨(okS_all h).1, fun a ha => let ⟨e, he⟩ := (okS_all h).2 a ha; chkAr_rng he⟩

/-! ### a machine -/
def mf1 (n : Int) : List (Str × V) := putF "stations" (.int n) []
def mf2 (n : Int) (v1 : V) := putF "starts" v1 (mf1 n)
def mf3 (n : Int) (v1 v2 : V) := putF "arrows" v2 (mf2 n v1)
def mf4 (n : Int) (v1 v2 : V) (r : Int) := putF "rim" (.int r) (mf3 n v1 v2)
def mf5 (n : Int) (v1 v2 : V) (r b : Int) := putF "block" (.int b) (mf4 n v1 v2 r)
def mf6 (n : Int) (v1 v2 : V) (r b : Int) (lv : V) := putF "leaving" lv (mf5 n v1 v2 r b)
section
variable {n r b : Int} {v1 v2 lv : V}
theorem len1 : (mf1 n).length ≤ 1 := length_putF ..
theorem len2 : (mf2 n v1).length ≤ 2 := Nat.le_trans (length_putF ..) (Nat.succ_le_succ len1)
theorem len3 : (mf3 n v1 v2).length ≤ 3 := Nat.le_trans (length_putF ..) (Nat.succ_le_succ len2)
theorem len4 : (mf4 n v1 v2 r).length ≤ 4 := Nat.le_trans (length_putF ..) (Nat.succ_le_succ len3)
theorem len5 : (mf5 n v1 v2 r b).length ≤ 5 := Nat.le_trans (length_putF ..) (Nat.succ_le_succ len4)
theorem l2_st : (mf2 n v1).lookup ("starts" : Str) = some v1 := by unfold mf2; rw [lookup_putF, if_pos rfl]
theorem l3_ss : (mf3 n v1 v2).lookup ("starts" : Str) = some v1 := by unfold mf3; rw [lookup_putF, if_neg (by decide +kernel)]; exact l2_st
theorem l3_ar : (mf3 n v1 v2).lookup ("arrows" : Str) = some v2 := by unfold mf3; rw [lookup_putF, if_pos rfl]
theorem l4_ar : (mf4 n v1 v2 r).lookup ("arrows" : Str) = some v2 := by unfold mf4; rw [lookup_putF, if_neg (by decide +kernel)]; exact l3_ar
theorem l5_ar : (mf5 n v1 v2 r b).lookup ("arrows" : Str) = some v2 := by unfold mf5; rw [lookup_putF, if_neg (by decide +kernel)]; exact l4_ar
theorem l6_ar : (mf6 n v1 v2 r b lv).lookup ("arrows" : Str) = some v2 := by unfold mf6; rw [lookup_putF, if_neg (by decide +kernel)]; exact l5_ar
theorem l6_ss : (mf6 n v1 v2 r b lv).lookup ("starts" : Str) = some v1 := by
  unfold mf6 mf5 mf4
  rw [lookup_putF, if_neg (by decide +kernel), lookup_putF, if_neg (by decide +kernel), lookup_putF, if_neg (by decide +kernel)]; exact l3_ss
theorem l6_sn : (mf6 n v1 v2 r b lv).lookup ("stations" : Str) = some (.int n) := by
  unfold mf6 mf5 mf4 mf3 mf2 mf1
  rw [lookup_putF, if_neg (by decide +kernel), lookup_putF, if_neg (by decide +kernel), lookup_putF, if_neg (by decide +kernel), lookup_putF, if_neg (by decide +kernel), lookup_putF, if_neg (by decide +kernel), lookup_putF, if_pos rfl]
theorem l6_rim : (mf6 n v1 v2 r b lv).lookup ("rim" : Str) = some (.int r) := by
  unfold mf6 mf5 mf4
  rw [lookup_putF, if_neg (by decide +kernel), lookup_putF, if_neg (by decide +kernel), lookup_putF, if_pos rfl]
theorem l6_blk : (mf6 n v1 v2 r b lv).lookup ("block" : Str) = some (.int b) := by
  unfold mf6 mf5
  rw [lookup_putF, if_neg (by decide +kernel), lookup_putF, if_pos rfl]
theorem l6_no {m : Str} (h1 : m ≠ "leaving") (h2 : m ≠ "block") (h3 : m ≠ "rim") (h4 : m ≠ "arrows") (h5 : m ≠ "starts") (h6 : m ≠ "stations") : (mf6 n v1 v2 r b lv).lookup m = none := by
  unfold mf6 mf5 mf4 mf3 mf2 mf1
  rw [lookup_putF, if_neg h1, lookup_putF, if_neg h2, lookup_putF, if_neg h3, lookup_putF, if_neg h4, lookup_putF, if_neg h5, lookup_putF, if_neg h6]; rfl
end
/-- what a machine is made of -/
def okMach (dS dA dB : PyData) (n : Int) (ss : List (Int × Int)) (as : List Ar) : Prop := dS = .int n ∧ 1 ≤ n ∧ n ≤ 200 ∧ okS (chkSt n) 60 dA ss ∧ okS (chkAr n) 4000 dB as
def badMach (dS dA dB : PyData) (wh : Str) (at_ : Int) : Prop :=
  (wIn dS 1 200 = false ∧ wh = "stations" ∧ at_ = -1) ∨ (∃ n, dS = .int n ∧ 1 ≤ n ∧ n ≤ 200 ∧ badS (chkSt n) 60 dA at_ ∧ wh = "starts") ∨ ∃ n ss, dS = .int n ∧ 1 ≤ n ∧ n ≤ 200 ∧ okS (chkSt n) 60 dA ss ∧ badS (chkAr n) 4000 dB at_ ∧ wh = "arrows"
/-- the text's class -/
structure Mach (K : PySem.W.Frag) (C : Addr) : Prop where
  cl : Cls K C
  n1 : NoAttr K C "stations"
  n2 : NoAttr K C "starts"
  n3 : NoAttr K C "arrows"
  n4 : NoAttr K C "rim"
  n5 : NoAttr K C "block"
  n6 : NoAttr K C "leaving"
mutual
theorem Dt.offI {N : Addr → Prop} {H : Hp} {p C : Addr} {dx : Addr} {fs : List (Str × V)} (hp : H p = some (.ins C dx fs)) : ∀ {d : PyData} {v : V}, Dt N H d v → Dt (Nx N p) H d v
  | _, _, .non => .non
  | _, _, .bl b => .bl b
  | _, _, .int i => .int i
  | _, _, .str x => .str x
  | _, _, .lst n h r => .lst ⟨n, fun z => by rw [z, hp] at h; cases h⟩ h (DtL.offI hp r)
  | _, _, .tup n h r => .tup ⟨n, fun z => by rw [z, hp] at h; cases h⟩ h (DtL.offI hp r)
theorem DtL.offI {N : Addr → Prop} {H : Hp} {p C : Addr} {dx : Addr} {fs : List (Str × V)} (hp : H p = some (.ins C dx fs)) : ∀ {ds : List PyData} {vs : List V}, DtL N H ds vs → DtL (Nx N p) H ds vs
  | _, _, .nil => .nil
  | _, _, .cons h r => .cons (Dt.offI hp h) (DtL.offI hp r)
end
/-- all but p kept, p still there -/
def Kq (p : Addr) (H H' : Hp) : Prop := (∀ b o, b ≠ p → H b = some o → H' b = some o) ∧ ∃ o, H' p = some o
theorem Kq.free {p : Addr} {H H' : Hp} (k : Kq p H H') {b : Addr} (h : H' b = none) : H b = none := by
  cases e : H b with
  | none => rfl
  | some o =>
    by_cases hb : b = p
    · obtain ⟨o', e'⟩ := k.2
      rw [hb, e'] at h; cases h
    · rw [k.1 b o hb e] at h; cases h
theorem Kq.same {p : Addr} {H H' H'' : Hp} (k : Kq p H H') (s : Same H' H'') : Kq p H H'' := ⟨fun b o n e => s b o (k.1 b o n e), let ⟨o, e⟩ := k.2; ⟨o, s p o e⟩⟩
theorem Kq.put {p : Addr} {H H' : Hp} {o : HO} (k : Kq p H H') : Kq p H (upd H' p o) := ⟨fun b u n e => by rw [upd_ne n]; exact k.1 b u n e, o, upd_same⟩
theorem Kq.kp {p : Addr} {H H' : Hp} {N : Addr → Prop} (k : Kq p H H') : Kp (Nx N p) H H' := fun b o n e => k.1 b o n.2 e
theorem Kq.refl {p : Addr} {H : Hp} {o : HO} (h : H p = some o) : Kq p H H := ⟨fun b u _ e => e, o, h⟩
section
variable {P : Program} {w : World} {K : PySem.W.Frag} {mg : Str → Option Value} {base : Heap}
def spInit (CN C : Addr) : Sp := fun vs H Q E => ∃ (N : Addr → Prop) (p dx : Addr) (dS dA dB : PyData) (vS vA vB : V), vs = [.ref p, vS, vA, vB] ∧ H p = some (.ins CN dx []) ∧ Dt N H dS vS ∧ Dt N H dA vA ∧ Dt N H dB vB ∧ Fn N H ∧
  (∀ n ss as, okMach dS dA dB n ss as → ∀ H' v1 v2 lv dx', Kq p H H' → H' p = some (.ins CN dx' (mf6 n v1 v2 (rimOf ss as) (blkOf as) lv)) → Dt (Nx N p) H' (.tuple (ss.map encSt)) v1 → Dt (Nx N p) H' (.tuple (as.map encAr)) v2 → Q .non H') ∧
  (∀ wh at_, badMach dS dA dB wh at_ → ∀ dd H', Kq p H H' → H dd = none → H' dd = some (.xd (fsM wh at_)) → E (.ref C) (some dd) H')
theorem sc_init : FnScope ["self", "stations", "starts", "arrows", "leaving", "at", "arrow", "station", "row"] ["self", "stations", "starts", "arrows"] (defScope (inClass (top 20) 0)) := ⟨rfl, rfl, rfl, by decide +kernel, rfl, by decide +kernel, by decide +kernel⟩
end
end K8
set_option maxRecDepth 100000
set_option maxHeartbeats 1000000
/-! PA: Machine.__init__, walked. -/
namespace K8
open PySem PySem.Spec PyProof.Rows L2 L2H
section
variable {P : Program} {w : World} {K : PySem.W.Frag} {mg : Str → Option Value} {base : Heap}
/-- the rows of leaving -/
def RowsAt (H1 H : Hp) (D : Addr) (n : Nat) (i : Nat) (rs : List Addr) : Prop := H D = some (.lst (rs.map V.ref)) ∧ H1 D = none ∧ rs.length = n ∧ ∀ r ∈ rs, r ≠ D ∧ H1 r = none ∧ ∃ xs, H r = some (.lst xs) ∧ xs.length ≤ i
theorem RowsAt.get {H1 H : Hp} {D : Addr} {n i : Nat} {rs : List Addr} (R : RowsAt H1 H D n i rs) {j : Nat} (hj : j < n) : ∃ r xs, rs[j]? = some r ∧ r ≠ D ∧ H1 r = none ∧ H r = some (.lst xs) ∧ xs.length ≤ i := by
  obtain ⟨h1, h2, h3, h4⟩ := R
  have hj' : j < rs.length := by omega
  obtain ⟨a, b, xs, c, d⟩ := h4 _ (List.getElem_mem hj')
  exact ⟨rs[j], xs, by simp [hj'], a, b, c, d⟩
theorem RowsAt.put {H1 H : Hp} {D : Addr} {n i : Nat} {rs : List Addr} (R : RowsAt H1 H D n i rs) {r : Addr} {xs : List V} {x : V} (hr : r ≠ D) (hx : H r = some (.lst xs)) (hl : xs.length ≤ i) : RowsAt H1 (upd H r (.lst (xs ++ [x]))) D n (i + 1) rs := by
  obtain ⟨h1, h2, h3, h4⟩ := R
  refine ⟨by rw [upd_ne (Ne.symm hr)]; exact h1, h2, h3, fun q hq => ?_⟩
  obtain ⟨a, b, ys, c, d⟩ := h4 q hq
  refine ⟨a, b, ?_⟩
  by_cases e : q = r
  · exact ⟨xs ++ [x], by rw [e]; exact upd_same, by rw [List.length_append, List.length_singleton]; omega⟩
  · exact ⟨ys, by rw [upd_ne e]; exact c, by omega⟩
theorem RowsAt.same {H1 H H' : Hp} {D : Addr} {n i : Nat} {rs : List Addr} (R : RowsAt H1 H D n i rs) (s : Same H H') : RowsAt H1 H' D n i rs :=
  ⟨s _ _ R.1, R.2.1, R.2.2.1, fun r hr => let ⟨a, b, xs, c, d⟩ := R.2.2.2 r hr; ⟨a, b, xs, s _ _ c, d⟩⟩
theorem Same.putx {H1 H : Hp} {r : Addr} {o : HO} (s : Same H1 H) (h : H1 r = none) : Same H1 (upd H r o) := fun b u e => by
  rw [upd_ne (fun z => by rw [z, h] at e; cases e)]; exact s b u e
def rTup (K : PySem.W.Frag) : List V → Hp → VK → Prop := fun xs H Q => ∃ p ys, xs = [.ref p] ∧ ((SqL K H p ys ∧ ∀ l, H l = none → Q (.ref l) (upd H l (.tup ys))) ∨ (SqT K H p ys ∧ Q (.ref p) H))
theorem call_tup {X : Cx} : CallR X (.type "tuple") (rTup X.K) := call_tuple_of
theorem ok_init {f CN C : Addr} {fd : FuncData} (F : Fun K "__init__" "Machine.__init__" (inClass (top 20) 0) f fd) (B : Bn mg) (M : Mach K CN) (X : ExM P w K mg base C)
    (W : Ok P w K mg base CX0 1 "whole_within" ["thing", "low", "high"] spWhole) (FS : Ok P w K mg base (L2.CX P w) 3 "check_starts" ["stations", "starts"] (spSeq chkSt encSt "starts" 60 C))
    (FA : Ok P w K mg base (L2.CX P w) 5 "check_arrows" ["stations", "arrows"] (spSeq chkAr encAr "arrows" 4000 C)) (FW : Ok P w K mg base CX0 1 "widest_of" ["starts", "arrows"] spWide) (FB : Ok P w K mg base CX0 1 "block_of" ["arrows"] spBlock) :
    FnOk P w K mg base (L2.CX P w) 6 f fd ["self", "stations", "starts", "arrows"] (spInit CN C) := by
  obtain ⟨oc, od, kV, doc, pm, an, cdv, ct, osl, rfl, lk, hcd⟩ := F.ex
  refine fn_of lk hcd sc_init (fun vs H Q E h => ?_) fun A outer s H vs Q E hr h => ?_
  · obtain ⟨N, p, dx, dS, dA, dB, vS, vA, vB, rfl, _⟩ := h; rfl
  · obtain ⟨N, p, dx, dS, dA, dB, vS, vA, vB, rfl, hp, hS, hA, hB, fn, kq, ke⟩ := h
    have hr1 : Room 1 _ := hr.mono (by decide)
    have hr3 : Room 3 _ := hr.mono (by decide)
    have hr5 : Room 5 _ := hr
    have hr2 : RoomH 2 _ := roomH_of (hr.mono (by decide))
    refine ⟨_, pss_cons (ps_if (pt_not (pt_val (pc W hr1 pass0 (pa_cons (pv 1) (pa_cons pe_int (pa_cons pe_int pa_nil))))))
        (pss_one (L2N.ps_raise rfl (TakesK.of (n := 0) (L2.takes_of rfl rfl rfl rfl)).n (mkM X hr2 (pa_cons pe_str (pa_cons (pe_un un_neg pe_int) pa_nil))).pmk)) pss_nil)
      (pss_cons (ps_fld (pv 0) (pv 1) rfl)
      (pss_cons (ps_fld (pv 0) (pc FS hr3 (L2.passes_call (L2.takes_of rfl rfl rfl rfl) (fun _ _ _ _ h => h)) (pa_cons (pv 1) (pa_cons (pv 2) pa_nil))) rfl)
      (pss_cons (ps_fld (pv 0) (pc FA hr5 (L2.passes_call (L2.takes_of rfl rfl rfl rfl) (fun _ _ _ _ h => h)) (pa_cons (pv 1) (pa_cons (pv 3) pa_nil))) rfl)
      (pss_cons (ps_fld (pv 0) (pc FW hr1 pass0 (pa_cons (pe_fld (pv 0) rfl) (pa_cons (pe_fld (pv 0) rfl) pa_nil))) rfl)
      (pss_cons (ps_fld (pv 0) (pc FB hr1 pass0 (pa_cons (pe_fld (pv 0) rfl) pa_nil)) rfl)
      (pss_cons (ps_setLc (i := 4) (own := [("station", 7)]) (g := gName 7) rfl sc_init.nd rfl rfl (sw_true rfl rfl rfl (by decide +kernel)) (pi_range1 (by rfl) B.range (pa_cons (pv 1) pa_nil)) (blkOk_by (N := ["self", "stations", "starts", "arrows", "leaving", "at", "arrow", "station", "row"]) (sc := defScope (inClass (top 20) 0)) (by decide +kernel))
        (fun _ _ _ _ _ => pg_name (i := 7) sc_init.nd rfl (Or.inl rfl)) (fun _ _ _ _ _ => pts_nil) (fun _ _ _ _ _ => pe_lst pa_nil))
      (pss_cons (ps_for (passes_of rfl) rfl (pi_enD (by rfl) B.enum (pa_cons (pe_fld (pv 0) rfl) pa_nil)) (pg_tup (n := 2) rfl (pgs_cons (pg_name (i := 5) sc_init.nd rfl (Or.inl rfl)) (pgs_cons (pg_name (i := 6) sc_init.nd rfl (Or.inl rfl)) pgs_nil)))
        (pss_one (ps_expr (pe_bm PySem.F.plainAttrs_list PySem.F.slot_list_append PySem.F.type_list_append mt_append (pe_ix ix_list (pv 4) (pe_ix ix_dt (pv 6) pe_int (fun _ _ => rfl)) (fun _ _ => rfl)) (pa_cons (pv 5) pa_nil)))))
      (pss_one (ps_fld (pv 0) (pe_callTy call_tup (by rfl) B.tuple b_tuple (pa_cons (pe_lc (te := tCB (rTup K) (tCons (tVar 8) tNil)) (own := [("row", 8)]) (g := gName 8) rfl sc_init.nd (pi_list (pv 4)) (blkOk_by (N := ["self", "stations", "starts", "arrows", "leaving", "at", "arrow", "station", "row"]) (sc := defScope (inClass (top 20) 0)) (by decide +kernel))
        (fun _ _ _ _ _ => pg_name (i := 8) sc_init.nd rfl (Or.inl rfl)) (fun _ _ _ _ _ => pts_nil) (fun _ _ _ _ _ => pe_callTy call_tup (by rfl) B.tuple b_tuple (pa_cons (pv 8) pa_nil))) pa_nil)) (by rfl)))))))))), ?_⟩
    -- not whole_within
    refine ⟨_, rfl, N, dS, vS, 1, 200, rfl, hS, _, rfl, ?_⟩
    refine itnb (fun c => ?_) (fun c => ?_)
    · refine ⟨_, rfl, "stations", -1, rfl, by decide +kernel, by decide +kernel, fun dd nd => ?_⟩
      exact ke "stations" (-1) (.inl ⟨c, rfl, rfl⟩) dd _ ((Kq.refl hp).same (same_new nd)) nd upd_same
    obtain ⟨n, rfl, n1, n2⟩ := wIn_int c
    cases hS
    -- self.stations = stations
    refine ⟨_, rfl, _, rfl, p, CN, dx, [], rfl, hp, M.cl, M.n1, by decide, ?_⟩
    have q1 : Kq p H (upd H p (.ins CN dx (putF "stations" (.int n) []))) := (Kq.refl hp).put
    have hA1 := (hA.offI hp).kp q1.kp
    have fn1 : Fn (Nx N p) (upd H p (.ins CN dx (putF "stations" (.int n) []))) := fun b e => ⟨fn b (q1.free e), fun z => by rw [z, upd_same] at e; cases e⟩
    -- self.starts = check_starts(..)
    refine ⟨_, rfl, _, rfl, _, n, dA, vA, rfl, hA1, fn1, fun ss hss v1 H2 s2 h1 => ?_, fun at_ hb dd H2 s2 nd ed => ke "starts" at_ (.inr (.inl ⟨n, rfl, n1, n2, hb, rfl⟩)) dd H2 (q1.same s2) (q1.free nd) ed⟩
    have hp2 := s2 _ _ (upd_same)
    have q2 := q1.same s2
    refine ⟨_, rfl, p, CN, dx, _, rfl, hp2, M.cl, M.n2, Nat.lt_of_le_of_lt len1 (by decide), ?_⟩
    have q2' : Kq p H (upd H2 p (.ins CN dx (mf2 n v1))) := q2.put
    have hB2 := (hB.offI hp).kp q2'.kp
    have fn2 : Fn (Nx N p) (upd H2 p (.ins CN dx (mf2 n v1))) := fun b e => ⟨fn b (q2'.free e), fun z => by rw [z, upd_same] at e; cases e⟩
    -- self.arrows = check_arrows(..)
    refine ⟨_, rfl, _, rfl, _, n, dB, vB, rfl, hB2, fn2, fun as has v2 H3 s3 h2 => ?_, fun at_ hb dd H3 s3 nd ed => ke "arrows" at_ (.inr (.inr ⟨n, ss, rfl, n1, n2, hss, hb, rfl⟩)) dd H3 (q2'.same s3) (q2'.free nd) ed⟩
    have hp3 := s3 _ _ (upd_same)
    have q3 := q2'.same s3
    have h1' : Dt (Nx N p) (upd H2 p (.ins CN dx (mf2 n v1))) (.tuple (ss.map encSt)) v1 := h1.kp (.put fun h => h.2 rfl)
    have h13 := h1'.same s3
    have hasr := okS_ar has
    refine ⟨_, rfl, p, CN, dx, _, rfl, hp3, M.cl, M.n3, Nat.lt_of_le_of_lt len2 (by decide), ?_⟩
    -- self.rim = widest_of(..)
    have hp3' : (upd H3 p (.ins CN dx (mf3 n v1 v2))) p = some (.ins CN dx (mf3 n v1 v2)) := upd_same
    have q3' : Kq p H (upd H3 p (.ins CN dx (mf3 n v1 v2))) := q3.put
    have h13' : Dt (Nx N p) (upd H3 p (.ins CN dx (mf3 n v1 v2))) (.tuple (ss.map encSt)) v1 := h13.kp (.put fun h => h.2 rfl)
    have h23' : Dt (Nx N p) (upd H3 p (.ins CN dx (mf3 n v1 v2))) (.tuple (as.map encAr)) v2 := h2.kp (.put fun h => h.2 rfl)
    refine ⟨_, rfl, p, CN, dx, _, _, rfl, hp3', M.cl, M.n2, l3_ss, _, rfl, p, CN, dx, _, _, rfl, hp3', M.cl, M.n3, l3_ar, _, ss, as, v1, v2, rfl, h13', h23', fun a ha => (hasr.2 a ha).1, ?_⟩
    refine ⟨_, rfl, p, CN, dx, _, rfl, hp3', M.cl, M.n4, Nat.lt_of_le_of_lt len3 (by decide), ?_⟩
    -- self.block = block_of(..)
    have hp4 : (upd (upd H3 p (.ins CN dx (mf3 n v1 v2))) p (.ins CN dx (mf4 n v1 v2 (rimOf ss as)))) p = some (.ins CN dx (mf4 n v1 v2 (rimOf ss as))) := upd_same
    have q4 : Kq p H (upd (upd H3 p (.ins CN dx (mf3 n v1 v2))) p (.ins CN dx (mf4 n v1 v2 (rimOf ss as)))) := q3'.put
    have h14 := h13'.kp (N := Nx N p) (H' := upd (upd H3 p (.ins CN dx (mf3 n v1 v2))) p (.ins CN dx (mf4 n v1 v2 (rimOf ss as)))) (.put fun h => h.2 rfl)
    have h24 := h23'.kp (N := Nx N p) (H' := upd (upd H3 p (.ins CN dx (mf3 n v1 v2))) p (.ins CN dx (mf4 n v1 v2 (rimOf ss as)))) (.put fun h => h.2 rfl)
    refine ⟨_, rfl, p, CN, dx, _, _, rfl, hp4, M.cl, M.n3, l4_ar, _, as, v2, rfl, h24, fun a ha => (hasr.2 a ha).1, fun H5 s5 => ?_⟩
    have hp5 := s5 _ _ hp4
    have q5 := q4.same s5
    refine ⟨_, rfl, p, CN, dx, _, rfl, hp5, M.cl, M.n5, Nat.lt_of_le_of_lt len4 (by decide), ?_⟩
    have hp6 : (upd H5 p (.ins CN dx (mf5 n v1 v2 (rimOf ss as) (blkOf as)))) p = some (.ins CN dx (mf5 n v1 v2 (rimOf ss as) (blkOf as))) := upd_same
    have q6 : Kq p H (upd H5 p (.ins CN dx (mf5 n v1 v2 (rimOf ss as) (blkOf as)))) := q5.put
    have h16 := (h14.same s5).kp (N := Nx N p) (H' := upd H5 p (.ins CN dx (mf5 n v1 v2 (rimOf ss as) (blkOf as)))) (.put fun h => h.2 rfl)
    have h26 := (h24.same s5).kp (N := Nx N p) (H' := upd H5 p (.ins CN dx (mf5 n v1 v2 (rimOf ss as) (blkOf as)))) (.put fun h => h.2 rfl)
    have gen : ∀ H6 : Hp, H6 = upd H5 p (.ins CN dx (mf5 n v1 v2 (rimOf ss as) (blkOf as))) → H6 p = some (.ins CN dx (mf5 n v1 v2 (rimOf ss as) (blkOf as))) ∧ Kq p H H6 ∧ Dt (Nx N p) H6 (.tuple (ss.map encSt)) v1 ∧ Dt (Nx N p) H6 (.tuple (as.map encAr)) v2 := fun H6 e => by
      subst e; exact ⟨hp6, q6, h16, h26⟩
    show tSeq _ _ _ _ (upd H5 p (.ins CN dx (mf5 n v1 v2 (rimOf ss as) (blkOf as))))
    generalize upd H5 p (.ins CN dx (mf5 n v1 v2 (rimOf ss as) (blkOf as))) = H6 at gen
    obtain ⟨hp6, q6, h16, h26⟩ := gen H6 rfl
    have szb : 5000 ≤ sizeLine := by show 5000 ≤ sizeLine; decide +kernel
    -- leaving = [[] for station in range(stations)]
    refine ⟨_, rfl, n, rfl, by omega, by omega, fun D nD => lc_range (fun i H' => ∃ rs, RowsAt H6 H' D i 0 rs ∧ Same H6 H') ⟨[], ⟨upd_same, nD, rfl, fun r h => by cases h⟩, same_new nD⟩ (fun i H' hi ⟨rs, R, sm⟩ => ?_) (fun H' ⟨rs, R, sm⟩ => ?_)⟩
    · refine ⟨rfl, Nat.zero_le _, fun r nr => ⟨rs.map V.ref, ?_, ?_, rs ++ [r], ?_, ?_⟩⟩
      · rw [upd_ne (ne_of_none R.1 nr)]; exact R.1
      · rw [List.length_map, R.2.2.1]; omega
      · have rD : r ≠ D := Ne.symm (ne_of_none R.1 nr)
        refine ⟨by rw [List.map_append]; exact upd_same, nD, by rw [List.length_append, R.2.2.1]; rfl, fun q hq => ?_⟩
        rcases List.mem_append.mp hq with hq | hq
        · obtain ⟨a, b, xs, c, d⟩ := R.2.2.2 q hq
          exact ⟨a, b, xs, by rw [upd_ne a, upd_ne (ne_of_none c nr)]; exact c, d⟩
        · obtain rfl := List.mem_singleton.mp hq
          exact ⟨rD, sm.free nr, [], by rw [upd_ne rD]; exact upd_same, Nat.le_refl _⟩
      · exact Same.putx (Same.putx sm (sm.free nr)) nD
    -- for at, arrow in enumerate(self.arrows)
    have hd6 : Dt (Nx N p) H' (.tuple (as.map encAr)) v2 := h26.same sm
    refine ⟨_, rfl, p, CN, dx, _, _, rfl, sm _ _ hp6, M.cl, M.n3, l5_ar, _, _, v2, _, rfl, hd6, rfl, ?_⟩
    refine for_enD rfl (fun i σ H7 => ∃ x y rs, σ = [some (.ref p), some (.int n), some vA, some vB, some (.ref D), x, y, none, none] ∧ RowsAt H6 H7 D n.toNat i rs ∧ Same H6 H7) ⟨none, none, rs, rfl, R, sm⟩ (fun i σ H7 _ ⟨_, _, _, _, _, sm⟩ => h26.same sm) (fun i e y T σ H7 hi hpv nT hy => ?_) (fun σ H7 hpv => ?_)
    · obtain ⟨x0, y0, rs, rfl, R, sm⟩ := hpv
      obtain ⟨a, ha, rfl⟩ := map_get hi
      obtain ⟨r1, r2, r3⟩ := hasr.2 a (List.mem_of_getElem? ha)
      have hil : i < as.length := (List.getElem?_eq_some_iff.mp ha).1
      have R' := R.same (same_new (o := .tup [.int (i : Nat), y]) nT)
      obtain ⟨r, xs, e1, e2, e3, e4, e5⟩ := R'.get (j := a.1.toNat) (by omega)
      have hy' := hy.same (same_new (o := .tup [.int (i : Nat), y]) nT)
      refine ⟨T, _, rfl, SqT.of upd_same, rfl, _, _, rfl, _, _, rfl, rfl, ?_⟩
      refine ⟨_, rfl, _, rfl, _, _, _, 0, _, hy', rfl, rfl, rfl, fun v hv => ?_⟩
      cases hv
      have hai : (((rs.map V.ref) : List V)[a.1.toNat]?) = some (.ref r) := by rw [List.getElem?_map, e1]; rfl
      have eai : a.1 = ((a.1.toNat : Nat) : Int) := by omega
      refine ⟨D, rs.map V.ref, a.1, .ref r, rfl, rfl, SqL.of R'.1, by rw [eai]; exact atI_nat hai, .inl ⟨rfl, xs, SqL.of e4⟩, ?_⟩
      have hlen := hasr.1
      refine ⟨_, rfl, r, xs, _, rfl, rfl, e4, by omega, ?_⟩
      exact ⟨_, _, rs, rfl, R'.put e2 e4 e5, Same.putx (sm.trans (same_new nT)) e3⟩
    · obtain ⟨x0, y0, rs, rfl, R, sm⟩ := hpv
      have hlen := hasr.1
      refine ⟨_, rfl, D, rfl, ⟨_, SqL.of R.1⟩, fun D2 nD2 => lc_list (xs := rs.map V.ref) (fun i H8 => Same H7 H8 ∧ ∃ acc, H8 D2 = some (.lst acc) ∧ acc.length = i) ⟨same_new nD2, [], upd_same, rfl⟩ (fun i H8 _ p => SqL.of (p.1 _ _ R.1)) (fun i x H8 hi ⟨s8, acc, ha, hl⟩ => ?_) (fun H8 ⟨s8, acc, ha, hl⟩ => ?_)⟩
      · obtain ⟨r, hr, rfl⟩ := map_get hi
        obtain ⟨_, _, xs, hx, _⟩ := R.2.2.2 r (List.mem_of_getElem? hr)
        have hil : i < rs.length := (List.getElem?_eq_some_iff.mp hr).1
        have hn := R.2.2.1
        refine ⟨rfl, _, rfl, r, xs, rfl, .inl ⟨SqL.of (s8 _ _ hx), fun l nl => ⟨acc, by rw [upd_ne (ne_of_none ha nl)]; exact ha, by omega, ?_, _, upd_same, by rw [List.length_append, hl]; rfl⟩⟩⟩
        exact Same.putx (same_up s8 nl) nD2
      · refine ⟨D2, acc, rfl, .inl ⟨SqL.of ha, fun l nl => ?_⟩⟩
        have s9 : Same H6 (upd H8 l (.tup acc)) := same_up (sm.trans s8) nl
        refine ⟨_, rfl, p, CN, dx, _, rfl, s9 _ _ hp6, M.cl, M.n6, Nat.lt_of_le_of_lt len5 (by decide), ?_⟩
        exact kq n ss as ⟨rfl, n1, n2, hss, has⟩ _ v1 v2 (.ref l) dx (q6.same s9).put upd_same ((h16.same s9).kp (.put fun h => h.2 rfl)) ((h26.same s9).kp (.put fun h => h.2 rfl))
end
end K8
set_option maxRecDepth 100000
set_option maxHeartbeats 1000000
/-! PB: data that compare; machines: ==, room_of, number_of. -/
namespace K8
open PySem PySem.Spec PyProof.Rows L2 L2H

/-! ### shaped -/
/-- fit for ==, at most k deep -/
def Shp (k : Nat) (d : PyData) : Prop := d.canLay0 = true ∧ d.depth ≤ k
theorem Shp.up {j k : Nat} {d : PyData} (h : Shp j d) (e : j ≤ k) : Shp k d := ⟨h.1, Nat.le_trans h.2 e⟩
theorem Shp.shaped {k : Nat} {d : PyData} (h : Shp k d) (e : k ≤ 64) : SeqAt.shaped d = true := by
  unfold SeqAt.shaped
  rw [h.1, decide_eq_true (Nat.le_trans h.2 e)]; rfl
theorem Shp.refl {k : Nat} {d : PyData} (h : Shp k d) : PyData.eqv d d = true := SeqAt.eqv_refl d h.1
theorem shp_all {k : Nat} : ∀ {ds : List PyData}, (∀ d ∈ ds, Shp k d) → PyData.canLayAll0 ds = true ∧ PyData.depthAll ds ≤ k
  | [], _ => ⟨rfl, Nat.zero_le _⟩
  | d :: r, h => by
    obtain ⟨h1, h2⟩ := shp_all fun x hx => h x (List.mem_cons_of_mem _ hx)
    obtain ⟨h3, h4⟩ := h d List.mem_cons_self
    refine ⟨by show (d.canLay0 && PyData.canLayAll0 r) = true; rw [h3, h1]; rfl, ?_⟩
    show max d.depth (PyData.depthAll r) ≤ k
    omega
theorem shp_tup {k : Nat} {ds : List PyData} (h : ∀ d ∈ ds, Shp k d) : Shp (k + 1) (.tuple ds) := ⟨(shp_all h).1, Nat.succ_le_succ (shp_all h).2⟩
theorem shp_lst {k : Nat} {ds : List PyData} (h : ∀ d ∈ ds, Shp k d) : Shp (k + 1) (.list ds) := ⟨(shp_all h).1, Nat.succ_le_succ (shp_all h).2⟩
theorem shp_int (i : Int) : Shp 1 (.int i) := ⟨rfl, Nat.zero_le _⟩
theorem shp_bl (i : Bool) : Shp 1 (.bool i) := ⟨rfl, Nat.zero_le _⟩
theorem shp_non : Shp 1 .none := ⟨rfl, Nat.zero_le _⟩
theorem shp_str {x : Str} (h : PyData.canLay0 (.str x) = true) : Shp 1 (.str x) := ⟨h, Nat.zero_le _⟩
theorem shp_nil {k : Nat} : ∀ d ∈ ([] : List PyData), Shp k d := fun _ h => by cases h
theorem shp_cons {k : Nat} {d : PyData} {ds : List PyData} (h : Shp k d) (r : ∀ d ∈ ds, Shp k d) : ∀ x ∈ d :: ds, Shp k x := fun x hx => by
  rcases List.mem_cons.mp hx with e | e
  · rw [e]; exact h
  · exact r x e
theorem shp_map {α : Type} {k : Nat} {f : α → PyData} {ls : List α} (h : ∀ a, Shp k (f a)) : ∀ d ∈ ls.map f, Shp k d := fun d hd => by
  obtain ⟨a, _, rfl⟩ := List.mem_map.mp hd
  exact h a
theorem shp_words {w : Str} (h : w ∈ (["set", "add", "turn", "mod", "below", "is", "rest", "stay", "deed", "so", "not", "good", "bad", "stations", "starts", "arrows"] : List Str)) : Shp 1 (.str w) := by
  have : ∀ w ∈ (["set", "add", "turn", "mod", "below", "is", "rest", "stay", "deed", "so", "not", "good", "bad", "stations", "starts", "arrows"] : List Str), PyData.canLay0 (.str w) = true := by decide +kernel
  exact shp_str (this w h)
theorem shp_lt (l : Lt) : Shp 2 l.enc := by
  cases l with
  | turn => exact shp_tup (shp_cons (shp_words (by decide +kernel)) shp_nil)
  | _ => exact shp_tup (shp_cons (shp_words (by decide +kernel)) (shp_cons (shp_int _) shp_nil))
theorem shp_ts (l : Ts) : Shp 2 l.enc := by
  cases l with
  | rest => exact shp_tup (shp_cons (shp_words (by decide +kernel)) (shp_cons (shp_int _) (shp_cons (shp_int _) shp_nil)))
  | _ => exact shp_tup (shp_cons (shp_words (by decide +kernel)) (shp_cons (shp_int _) shp_nil))
theorem shp_mv (m : Mv) : Shp 3 m.enc := by
  cases m with
  | stay => exact (shp_tup (shp_cons (shp_words (by decide +kernel)) shp_nil)).up (by omega)
  | deed l => exact shp_tup (shp_cons ((shp_words (by decide +kernel)).up (by omega)) (shp_cons (shp_lt l) shp_nil))
  | so l => exact shp_tup (shp_cons ((shp_words (by decide +kernel)).up (by omega)) (shp_cons (shp_ts l) shp_nil))
  | nt l => exact shp_tup (shp_cons ((shp_words (by decide +kernel)).up (by omega)) (shp_cons (shp_ts l) shp_nil))
theorem shp_st (p : Int × Int) : Shp 2 (encSt p) := shp_tup (shp_cons (shp_int _) (shp_cons (shp_int _) shp_nil))
theorem shp_ar (p : Ar) : Shp 4 (encAr p) := shp_tup (shp_cons ((shp_int _).up (by omega)) (shp_cons (shp_mv _) (shp_cons ((shp_int _).up (by omega)) shp_nil)))
theorem shp_sts (ss : List (Int × Int)) : Shp 3 (.tuple (ss.map encSt)) := shp_tup (shp_map shp_st)
theorem shp_ars (as : List Ar) : Shp 5 (.tuple (as.map encAr)) := shp_tup (shp_map shp_ar)

/-! ### machines in the heap -/
def MAt (CN : Addr) (N : Addr → Prop) (H : Hp) (p : Addr) (n : Int) (ss : List (Int × Int)) (as : List Ar) : Prop :=
  N p ∧ ∃ (dx : Addr) (v1 v2 lv : V), H p = some (.ins CN dx (mf6 n v1 v2 (rimOf ss as) (blkOf as) lv)) ∧ Dt N H (.tuple (ss.map encSt)) v1 ∧ Dt N H (.tuple (as.map encAr)) v2
theorem MAt.kp {CN : Addr} {N : Addr → Prop} {H H' : Hp} {p : Addr} {n : Int} {ss : List (Int × Int)} {as : List Ar} (h : MAt CN N H p n ss as) (k : Kp N H H') : MAt CN N H' p n ss as := by
  obtain ⟨np, dx, v1, v2, lv, h1, h2, h3⟩ := h
  exact ⟨np, dx, v1, v2, lv, k _ _ np h1, h2.kp k, h3.kp k⟩
/-- the class, once more: what isinstance and == ask -/
structure MachQ (K : PySem.W.Frag) (mg : Str → Option Value) (C g : Addr) : Prop extends Mach K C where
  ca : PySem.W.findIn K (.ref C) "__class__" = some (some (.builtin "object.__class__"))
  cn : PySem.W.specialIn K (.builtin "object.__class__") "__get__" = some (some (.builtin "getset_descriptor.__get__"))
  ct : PySem.W.takesIn K (.builtin "object.__class__") = some true
  cm : PySem.W.mroIn K C (.type "object") = some true
  kit : PySem.W.kitOne K (.ref C) (.ref C) = some true
  eqF : PySem.W.findIn K (.ref C) "__eq__" = some (some (.ref g))
  eqI : PySem.W.isFn K (.ref g) = true
  mgC : mg "Machine" = some (.ref C)
section
variable {X : Cx} {C g : Addr} {n : Nat} {fd : FuncData} {ps : List Str} {sp : Sp}
/-- x == y by the class's own def -/
def rOwnI (C : Addr) (sp : Sp) : R2 := fun x y H Q => ∃ a dx fs b dy gs, x = .ref a ∧ y = .ref b ∧ H a = some (.ins C dx fs) ∧ H b = some (.ins C dy gs) ∧ sp [x, y] H Q E0
theorem eq_own (M : MachQ X.K X.mg C g) (F : FnOk X.prog X.w X.K X.mg X.base CX0 n g fd ps sp) (hb : Binds X.K fd ps []) (hr : Room n X.A) : OpR X (compareOp .Eq) (rOwnI C sp) := by
  intro pins s σ H x y v u Q I rx ry h
  obtain ⟨a, dx, fs, b, dy, gs, rfl, rfl, ha, hb', q⟩ := h
  cases (show v = Value.ref a from rx)
  cases (show u = Value.ref b from ry)
  obtain ⟨mA, O, _⟩ := ins_get I.hok ha
  obtain ⟨od, J, _⟩ := O.look
  obtain ⟨mB, O', _⟩ := ins_get I.hok hb'
  obtain ⟨od', J', _⟩ := O'.look
  obtain ⟨m, hF⟩ := I.fr
  show wpAny _ _ (richCompare .Eq (.ref a) (.ref b)) _ _ _
  refine PySem.W.cmp_K (op := .Eq) (tb := .ref C) hr.units0 hF I.ok.mod.kin J J'.type (by unfold PySem.W.notFirst; simp) M.eqF M.eqI ?_
  refine wpAny_mono (run_fn (vs := [V.ref a, V.ref b]) F hr hb .nil pass0 I (.cons rfl (.cons rfl .nil)) q) (fun w s' z => ?_) fun _ _ x => x
  obtain ⟨z', H', I', rz, qz⟩ := z
  exact SlX.cmpback rz ⟨z', H', I', rz, qz⟩
end
section
variable {P : Program} {w : World} {K : PySem.W.Frag} {mg : Str → Option Value} {base : Heap}
def spEqM (CN : Addr) : Sp := fun vs H Q _ => ∃ (N : Addr → Prop) (p q : Addr) (n n' : Int) (ss ss' : List (Int × Int)) (as as' : List Ar), vs = [.ref p, .ref q] ∧ MAt CN N H p n ss as ∧ MAt CN N H q n' ss' as' ∧
  Q (.bl (decide (n = n') && PyData.eqv (.tuple (ss.map encSt)) (.tuple (ss'.map encSt)) && PyData.eqv (.tuple (as.map encAr)) (.tuple (as'.map encAr)))) H
theorem sc_eq : FnScope ["self", "other"] ["self", "other"] (defScope (inClass (top 20) 1)) := ⟨rfl, rfl, rfl, by decide +kernel, rfl, by decide +kernel, by decide +kernel⟩
theorem ok_eq {f CN g : Addr} {fd : FuncData} (F : Fun K "__eq__" "Machine.__eq__" (inClass (top 20) 1) f fd) (B : Bn mg) (M : MachQ K mg CN g) : FnOk P w K mg base CX0 1 f fd ["self", "other"] (spEqM CN) := by
  refine F.ok sc_eq (fun vs H Q E h => ?_) (fun cdv A outer s H vs Q E hr h => ?_)
  · obtain ⟨N, p, q, n, n', ss, ss', as, as', rfl, _⟩ := h; rfl
  · obtain ⟨N, p, q, n, n', ss, ss', as, as', rfl, ⟨np, dx, v1, v2, lv, hp, h1, h2⟩, ⟨nq, dy, u1, u2, mv, hq, g1, g2⟩, k⟩ := h
    refine ⟨_, pss_one (ps_ret (pe_and (pe_callB call_isi (by rfl) B.isi b_isi (pa_cons (pv 1) (pa_cons (pe_glob (v := V.ref CN) (by rfl) M.mgC rfl) pa_nil)))
      (pe_and (pe_cmpR eqI (pe_fld (pv 0) rfl) (pe_fld (pv 1) rfl) (nomark _)) (pe_and (pe_cmpR (eq_dt hr.units) (pe_fld (pv 0) rfl) (pe_fld (pv 1) rfl) (nomark _)) (pe_one (pe_cmpR (eq_dt hr.units) (pe_fld (pv 0) rfl) (pe_fld (pv 1) rfl) (nomark _))))))), ?_⟩
    refine ⟨_, rfl, .ref q, .ref CN, .ref CN, .ref CN, true, rfl, .own CN, .base (.ins hq M.cl M.ca M.cn M.ct M.cm), M.kit, _, rfl, iteT ?_⟩
    refine ⟨_, rfl, p, CN, dx, _, _, rfl, hp, M.cl, M.n1, l6_sn, _, rfl, q, CN, dy, _, _, rfl, hq, M.cl, M.n1, l6_sn, _, _, rfl, rfl, _, rfl, ?_⟩
    refine ite2 (fun c1 => ?_) (fun c1 => ?_)
    · rw [c1, Bool.true_and] at k
      refine ⟨_, rfl, p, CN, dx, _, _, rfl, hp, M.cl, M.n2, l6_ss, _, rfl, q, CN, dy, _, _, rfl, hq, M.cl, M.n2, l6_ss, N, _, _, h1, g1, (shp_sts _).shaped (by omega), (shp_sts _).shaped (by omega), _, rfl, ?_⟩
      refine ite2 (fun c2 => ?_) (fun c2 => ?_)
      · have c2' : PyData.eqv (.tuple (ss.map encSt)) (.tuple (ss'.map encSt)) = true := c2
        rw [c2', Bool.true_and] at k
        exact ⟨_, rfl, p, CN, dx, _, _, rfl, hp, M.cl, M.n3, l6_ar, _, rfl, q, CN, dy, _, _, rfl, hq, M.cl, M.n3, l6_ar, N, _, _, h2, g2, (shp_ars _).shaped (by omega), (shp_ars _).shaped (by omega), k⟩
      · have c2' : PyData.eqv (.tuple (ss.map encSt)) (.tuple (ss'.map encSt)) = false := Bool.eq_false_iff.mpr c2
        rw [c2', Bool.false_and] at k
        exact k
    · rw [Bool.eq_false_iff.mpr c1, Bool.false_and, Bool.false_and] at k
      exact k

/-! ### room_of, number_of -/
/-- what room_of tells: none, or (station, side, rest) and the height -/
def roomI (r b st n : Int) : PyData := if ab n - r - 1 < 0 then .none else .tuple [.tuple [.int st, .int (if n > 0 then 1 else -1), .int ((ab n - r - 1) % b)], .int ((ab n - r - 1) / b)]
def spRoom (CN : Addr) : Sp := fun vs H Q _ => ∃ (N : Addr → Prop) (p : Addr) (m st n : Int) (ss : List (Int × Int)) (as : List Ar), vs = [.ref p, .int st, .int n] ∧ MAt CN N H p m ss as ∧ 0 < blkOf as ∧ blkOf as < 1073741824 ∧ Fn N H ∧
  ∀ v H', Same H H' → Dt N H' (roomI (rimOf ss as) (blkOf as) st n) v → Q v H'
theorem sc_room : FnScope ["machine", "station", "number", "beyond", "side"] ["machine", "station", "number"] (defScope (top 21)) := ⟨rfl, rfl, rfl, by decide +kernel, rfl, by decide +kernel, by decide +kernel⟩
theorem ok_room {CN g : Addr} (B : Bn mg) (M : MachQ K mg CN g) (D : Dn K mg "room_of" 21 ["machine", "station", "number"]) : Ok P w K mg base CX0 1 "room_of" ["machine", "station", "number"] (spRoom CN) := by
  refine D.ok sc_room (fun vs H Q E h => ?_) (fun f cdv A outer s H vs Q E hr h => ?_)
  · obtain ⟨N, p, m, st, n, ss, as, rfl, _⟩ := h; rfl
  · obtain ⟨N, p, m, st, n, ss, as, rfl, ⟨np, dx, v1, v2, lv, hp, h1, h2⟩, b1, b2, fn, k⟩ := h
    refine ⟨_, pss_cons (ps_set (i := 3) sc_room.nd rfl (Or.inl rfl) (pe_op op_sub (pe_op op_sub (pe_callB call_abs (by rfl) B.abs b_abs (pa_cons (pv 2) pa_nil)) (pe_fld (pv 0) rfl)) pe_int))
      (pss_cons (ps_if (pt_cmpR op_lt (pv 3) pe_int (nomark _)) (pss_one (ps_ret pe_non)) pss_nil)
      (pss_cons (ps_set (i := 4) sc_room.nd rfl (Or.inl rfl) (pe_ifExp (pt_cmpR op_gt (pv 2) pe_int (nomark _)) pe_int (pe_un un_neg pe_int)))
      (pss_one (ps_ret (pe_tup (pa_cons (pe_tup (pa_cons (pv 1) (pa_cons (pv 4) (pa_cons (pe_op op_mod (pv 3) (pe_fld (pv 0) rfl)) pa_nil)))) (pa_cons (pe_op op_fdiv (pv 3) (pe_fld (pv 0) rfl)) pa_nil))))))), ?_⟩
    refine ⟨_, rfl, _, rfl, _, rfl, p, CN, dx, _, _, rfl, hp, M.cl, M.n4, l6_rim, _, _, rfl, rfl, _, _, rfl, rfl, ?_⟩
    have kk : ∀ v H', Same H H' → Dt N H' (if ab n - rimOf ss as - 1 < 0 then .none else .tuple [.tuple [.int st, .int (if n > 0 then 1 else -1), .int ((ab n - rimOf ss as - 1) % blkOf as)], .int ((ab n - rimOf ss as - 1) / blkOf as)]) v → Q v H' := k
    refine ⟨_, rfl, _, _, rfl, rfl, _, rfl, ?_⟩
    refine itd (fun c => kk .non H (Same.refl _) ?_) (fun c => ?_)
    · have c' : ab n - rimOf ss as - 1 < 0 := c
      rw [if_pos c']; exact .non
    have c' : ¬ ab n - rimOf ss as - 1 < 0 := c
    rw [if_neg c'] at kk
    have sz3 : 3 ≤ sizeLine := by show 3 ≤ sizeLine; decide
    have sz2 : 2 ≤ sizeLine := by show 2 ≤ sizeLine; decide
    have rest : ∀ z : Int, z = (if n > 0 then 1 else -1) → ∀ q r, H q = none → (upd H q (.tup [.int st, .int z, .int ((ab n - rimOf ss as - 1) % blkOf as)])) r = none →
        Q (.ref r) (upd (upd H q (.tup [.int st, .int z, .int ((ab n - rimOf ss as - 1) % blkOf as)])) r (.tup [.ref q, .int ((ab n - rimOf ss as - 1) / blkOf as)])) := fun z ez q r nq nr => by
      have s1 := same_new (o := .tup [.int st, .int z, .int ((ab n - rimOf ss as - 1) % blkOf as)]) nq
      refine kk _ _ (same_up s1 nr) ?_
      rw [← ez]
      exact Dt.newT (fn _ (s1.free nr)) nr (.cons (Dt.newT (fn _ nq) nq (.cons (.int _) (.cons (.int _) (.cons (.int _) .nil)))) (.cons (.int _) .nil))
    have go : ∀ z : Int, z = (if n > 0 then 1 else -1) → tRet (tTup (tCons (tTup (tCons (tVar 1) (tCons (tVar 4) (tCons (tOp (rI (fun _ j => 0 < j) fun i j => .int (i % j)) (tVar 3) (tFld K (tVar 0) "block")) tNil)))) (tCons (tOp (rI CDiv fun i j => .int (i / j)) (tVar 3) (tFld K (tVar 0) "block")) tNil)))
        { nx := fun _ H' => Q .non H', rt := Q } [some (.ref p), some (.int st), some (.int n), some (.int (ab n - rimOf ss as - 1)), some (.int z)] H := fun z ez => by
      refine ⟨_, rfl, _, rfl, _, rfl, _, rfl, p, CN, dx, _, _, rfl, hp, M.cl, M.n5, l6_blk, _, _, rfl, rfl, b1, sz3, fun q nq => ?_⟩
      have hp' : (upd H q (.tup [.int st, .int z, .int ((ab n - rimOf ss as - 1) % blkOf as)])) p = some (.ins CN dx (mf6 m v1 v2 (rimOf ss as) (blkOf as) lv)) := same_new nq _ _ hp
      exact ⟨_, rfl, _, rfl, p, CN, dx, _, _, rfl, hp', M.cl, M.n5, l6_blk, _, _, rfl, rfl, ⟨b1, b2⟩, sz2, fun r nr => rest z ez q r nq nr⟩
    refine ⟨_, rfl, _, _, rfl, rfl, _, rfl, ?_⟩
    refine itd (fun c2 => go 1 ?_) (fun c2 => ⟨_, rfl, go (-1) ?_⟩)
    · have c3 : n > 0 := c2
      rw [if_pos c3]
    · have c3 : ¬ n > 0 := c2
      rw [if_neg c3]
/-- number_of(machine, (.., side, rest), height) -/
def spNum (CN : Addr) : Sp := fun vs H Q _ => ∃ (N : Addr → Prop) (p : Addr) (m st sd rs h : Int) (ss : List (Int × Int)) (as : List Ar) (v : V), vs = [.ref p, v, .int h] ∧ MAt CN N H p m ss as ∧ Dt N H (.tuple [.int st, .int sd, .int rs]) v ∧ -(2 ^ 64) < blkOf as ∧ blkOf as < 2 ^ 64 ∧ -(2 ^ 64) < sd ∧ sd < 2 ^ 64 ∧
  Q (.int (sd * (rimOf ss as + 1 + blkOf as * h + rs))) H
theorem sc_num : FnScope ["machine", "room", "height"] ["machine", "room", "height"] (defScope (top 22)) := ⟨rfl, rfl, rfl, by decide +kernel, rfl, by decide +kernel, by decide +kernel⟩
theorem ok_num {CN g : Addr} (B : Bn mg) (M : MachQ K mg CN g) (D : Dn K mg "number_of" 22 ["machine", "room", "height"]) : Ok P w K mg base CX0 1 "number_of" ["machine", "room", "height"] (spNum CN) := by
  refine D.ok sc_num (fun vs H Q E h => ?_) (fun f cdv A outer s H vs Q E hr h => ?_)
  · obtain ⟨N, p, m, st, sd, rs, h, ss, as, v, rfl, _⟩ := h; rfl
  · obtain ⟨N, p, m, st, sd, rs, h, ss, as, v, rfl, ⟨np, dx, v1, v2, lv, hp, h1, h2⟩, hv, b1, b2, c1, c2, k⟩ := h
    refine ⟨_, pss_one (ps_ret (pe_op op_mul (pe_ix ix_dt (pv 1) pe_int (fun _ _ => rfl)) (pe_op op_add (pe_op op_add (pe_op op_add (pe_fld (pv 0) rfl) pe_int) (pe_op op_mul (pe_fld (pv 0) rfl) (pv 2))) (pe_ix ix_dt (pv 1) pe_int (fun _ _ => rfl))))), ?_⟩
    refine ⟨_, rfl, N, _, _, 1, _, hv, rfl, rfl, rfl, fun w1 hw1 => ?_⟩
    cases hw1
    refine ⟨_, rfl, p, CN, dx, _, _, rfl, hp, M.cl, M.n4, l6_rim, _, _, rfl, rfl, _, rfl, p, CN, dx, _, _, rfl, hp, M.cl, M.n5, l6_blk, _, rfl, _, _, rfl, rfl, .inl ⟨b1, b2⟩, _, _, rfl, rfl, ?_⟩
    refine ⟨_, rfl, N, _, _, 2, _, hv, rfl, rfl, rfl, fun w2 hw2 => ?_⟩
    cases hw2
    exact ⟨_, _, rfl, rfl, _, _, rfl, rfl, .inl ⟨c1, c2⟩, k⟩
end
end K8
set_option maxRecDepth 100000
set_option maxHeartbeats 1000000
/-! PC: the law's hand: hand, mixed, draw, pick, whole, value. -/
namespace K8
open PySem PySem.Spec PyProof.Rows L2 L2H

/-- the hand -/
def Hand (hd : Addr) (H : Hp) : Prop := ∃ (c : Addr) (cells : List Int) (i rest total : Int), H hd = some (.lst [.ref c, .int i, .int rest, .int total]) ∧ c ≠ hd ∧ H c = some (.lst (cells.map V.int)) ∧ (∀ x ∈ cells, 0 ≤ x) ∧ 0 ≤ i ∧ 0 ≤ rest ∧ 0 ≤ total
def Nh (hd : Addr) : Addr → Prop := fun b => b ≠ hd
theorem Hand.fn {hd : Addr} {H : Hp} (h : Hand hd H) : Fn (Nh hd) H := fun b e z => by
  obtain ⟨c, cells, i, rest, total, h1, _⟩ := h
  rw [z, h1] at e; cases e
/-- all but the hand kept; the hand still one -/
structure Kh (hd : Addr) (H H' : Hp) : Prop where
  kp : Kp (Nh hd) H H'
  hand : Hand hd H'
  kc : ∀ c r, H hd = some (.lst (.ref c :: r)) → ∃ r', H' hd = some (.lst (.ref c :: r'))
theorem Kh.trans {hd : Addr} {H H1 H2 : Hp} (a : Kh hd H H1) (b : Kh hd H1 H2) : Kh hd H H2 := ⟨a.1.trans b.1, b.2, fun c r e => let ⟨r', e'⟩ := a.3 c r e; b.3 c r' e'⟩
theorem Hand.refl {hd : Addr} {H : Hp} (h : Hand hd H) : Kh hd H H := ⟨Kp.refl, h, fun c r e => ⟨r, e⟩⟩
theorem Hand.same {hd : Addr} {H H' : Hp} (h : Hand hd H) (s : Same H H') : Hand hd H' := by
  obtain ⟨c, cells, i, rest, total, h1, h2, h3, r⟩ := h
  exact ⟨c, cells, i, rest, total, s _ _ h1, h2, s _ _ h3, r⟩
theorem Kh.same {hd : Addr} {H H1 H2 : Hp} (a : Kh hd H H1) (s : Same H1 H2) : Kh hd H H2 := ⟨a.1.trans (.same s), a.2.same s, fun c r e => let ⟨r', e'⟩ := a.3 c r e; ⟨r', s _ _ e'⟩⟩
/-- what is new may be changed -/
theorem Kh.put {hd a : Addr} {H H1 : Hp} {o : HO} (k : Kh hd H H1) (h : Hand hd H) (ha : H a = none) : Kh hd H (upd H1 a o) := by
  have na : a ≠ hd := h.fn a ha
  refine ⟨fun b u n e => ?_, ?_, fun c r e => ?_⟩
  · rw [upd_ne (fun z => by rw [z, ha] at e; cases e)]; exact k.1 b u n e
  · obtain ⟨c, cells, i, rest, total, h1, h2, h3, r⟩ := h
    obtain ⟨c', cells', i', rest', total', h1', h2', h3', r'⟩ := k.2
    obtain ⟨x, e'⟩ := k.3 c _ h1
    have ec : c' = c := by rw [h1'] at e'; cases e'; rfl
    have nc : c ≠ a := fun z => by rw [z, ha] at h3; cases h3
    exact ⟨c', cells', i', rest', total', by rw [upd_ne (Ne.symm na)]; exact h1', h2', by rw [ec, upd_ne nc, ← ec]; exact h3', r'⟩
  · obtain ⟨r', e'⟩ := k.3 c r e
    exact ⟨r', by rw [upd_ne (Ne.symm na)]; exact e'⟩
theorem Hand.ks {hd : Addr} {H H' : Hp} (h : Hand hd H) (s : Same H H') : Kh hd H H' := h.refl.same s
theorem Hand.none {hd : Addr} {H : Hp} (h : Hand hd H) {b : Addr} (e : H b = none) : b ≠ hd := h.fn b e
theorem Kh.free {hd : Addr} {H H' : Hp} (k : Kh hd H H') (h : Hand hd H) {b : Addr} (e : H' b = none) : H b = none := by
  cases q : H b with
  | none => rfl
  | some o =>
    by_cases hb : b = hd
    · exact absurd hb (k.2.none e)
    · rw [k.1 b o hb q] at e; cases e
section
variable {X : Cx}
def rInt1 : List V → Hp → VK → Prop := fun xs H Q => ∃ i, xs = [.int i] ∧ Q (.int i) H
theorem int1 : CallR X (.type "int") rInt1 := fun pins s σ H xs us Q I r ⟨i, e, q⟩ => call_int1 pins s σ H xs us Q I r (.inl ⟨i, e, q⟩)
/-- the hand's places -/
theorem i1 {e : Expr} {te : TE} {p pos : Pos} (B : Bn X.mg) (he : PE X e te) (hg : Gl X "int" := by rfl) (hs : starEach [e] X.env = (false, eval e X.env) :: starEach [] X.env := by rfl) (hpl : (backTo pos (starEach [] X.env)).any (·.1) = false := by rfl) :
    PE X (.Call (.Name "int" p) [e] [] pos) (tCB rInt1 (tCons te tNil)) := pe_callTy int1 hg B.int b_int (pa_cons he pa_nil hs) (he := hs) (hpl := hpl)
def rIxH : R2 := fun x y H Q => ∃ (a : Addr) (xs : List V) (i : Nat) (v : V), x = .ref a ∧ y = .int (i : Int) ∧ H a = some (.lst xs) ∧ xs[i]? = some v ∧ Q v H
theorem ix_h : IxR X rIxH := fun value slice pins s σ H x y v u Q I rx ry ⟨a, xs, i, z, ex, ey, h, hi, q⟩ hsub =>
  ix_list value slice pins s σ H x y v u Q I rx ry ⟨a, xs, i, z, ex, ey, SqL.of h, atI_nat hi, q⟩ hsub
def rSetH : TSet := fun o i v H Q => ∃ (p : Addr) (xs : List V) (j : Nat), o = .ref p ∧ i = .int (j : Int) ∧ H p = some (.lst xs) ∧ j < xs.length ∧ Q (upd H p (.lst (xs.set j v)))
theorem set_h : PSet X rSetH := fun pins s σ H o i v ov iv u Q I ro ri rv ⟨p, xs, j, e1, e2, h, hj, q⟩ =>
  set_list pins s σ H o i v ov iv u Q I ro ri rv ⟨p, xs, j, j, e1, e2, h, by unfold ixN; rw [if_pos (Int.natCast_nonneg j)]; simp [hj], q⟩
end
section
variable {P : Program} {w : World} {K : PySem.W.Frag} {mg : Str → Option Value} {base : Heap}
def spHand : Sp := fun vs H Q _ => ∃ (a : Addr) (ns : List Int), vs = [.ref a] ∧ SqL K H a (ns.map V.int) ∧ ns.length ≤ 63 ∧ ∀ hd H', H hd = none → Same H H' → Hand hd H' → Q (.ref hd) H'
theorem sc_hand : FnScope ["_law_script", "_law_total", "_law_cells", "_law_cell"] ["_law_script"] (defScope (top 24)) := ⟨rfl, rfl, rfl, by decide +kernel, rfl, by decide +kernel, by decide +kernel⟩
theorem ok_hand (B : Bn mg) (D : Dn K mg "_law_hand" 24 ["_law_script"]) : Ok P w K mg base CX0 1 "_law_hand" ["_law_script"] (spHand (K := K)) := by
  refine D.ok sc_hand (fun vs H Q E h => ?_) (fun f cdv A outer s H vs Q E hr h => ?_)
  · obtain ⟨a, ns, rfl, _⟩ := h; rfl
  · obtain ⟨a, ns, rfl, hS, hlen, k⟩ := h
    refine ⟨_, pss_cons (ps_set (i := 1) sc_hand.nd rfl (Or.inl rfl) (pe_op op_add pe_int (pe_callB call_len_seq (by rfl) B.len b_len (pa_cons (pv 0) pa_nil))))
      (pss_cons (ps_set (i := 2) sc_hand.nd rfl (Or.inl rfl) (pe_lst pa_nil))
      (pss_cons (ps_for PassesOwn.never rfl (pi_list (pv 0)) (pg_name (i := 3) sc_hand.nd rfl (Or.inl rfl))
        (pss_cons (ps_set (i := 1) sc_hand.nd rfl (Or.inl rfl) (pe_op op_mod (pe_callTy int1 (by rfl) B.int b_int (pa_cons (pe_op op_add (pe_op op_mul (pv 1) pe_int) (pe_callTy int1 (by rfl) B.int b_int (pa_cons (pv 3) pa_nil))) pa_nil)) pe_int))
        (pss_one (ps_expr (pe_bm PySem.F.plainAttrs_list PySem.F.slot_list_append PySem.F.type_list_append mt_append (pv 2) (pa_cons (pe_callB call_abs (by rfl) B.abs b_abs (pa_cons (pe_callTy int1 (by rfl) B.int b_int (pa_cons (pv 3) pa_nil)) pa_nil)) pa_nil))))))
      (pss_one (ps_ret (pe_lst (pa_cons (pv 2) (pa_cons pe_int (pa_cons pe_int (pa_cons (pv 1) pa_nil))))))))), ?_⟩
    refine ⟨_, rfl, a, _, rfl, .inl hS, _, _, rfl, rfl, Nat.zero_le _, fun c nc => ?_⟩
    have s1 := same_new (o := .lst []) nc
    refine ⟨_, rfl, a, rfl, ⟨_, s1.seq hS⟩, for_list (K := K) (xs := ns.map V.int) (fun i σ H' => ∃ (t : Int) (cs : List Int) (v : Option V), σ = [some (.ref a), some (.int t), some (.ref c), v] ∧ 0 ≤ t ∧ Same H H' ∧ H' c = some (.lst (cs.map V.int)) ∧ cs.length = i ∧ ∀ x ∈ cs, 0 ≤ x)
      ⟨_, [], none, rfl, by omega, s1, upd_same, rfl, fun x h => by cases h⟩ (fun i σ H' _ ⟨_, _, _, _, _, s, _⟩ => s.seq hS) (fun i x σ H' hi p => ?_) (fun σ H' p => ?_)⟩
    · obtain ⟨t, cs, v, rfl, t0, s2, hc, hl, hp⟩ := p
      obtain ⟨z, hz, rfl⟩ := map_get hi
      have hil := (List.getElem?_eq_some_iff.mp hz).1
      refine ⟨_, rfl, _, _, rfl, rfl, .inr ⟨by decide, by decide⟩, _, rfl, _, rfl, _, _, rfl, rfl, _, rfl, _, _, rfl, rfl, (by show (0 : Int) < 2147483549; decide), ?_⟩
      refine ⟨_, rfl, .inl ⟨rfl, _, SqL.of hc⟩, _, rfl, _, rfl, _, rfl, c, _, _, rfl, rfl, hc, (by rw [List.length_map, sizeLine_eq]; omega), ?_⟩
      refine ⟨_, cs ++ [ab z], _, rfl, Int.emod_nonneg _ (by decide), Same.putx s2 nc, ?_, by rw [List.length_append, hl]; rfl, fun x hx => ?_⟩
      · rw [List.map_append]; exact upd_same
      · rcases List.mem_append.mp hx with e | e
        · exact hp x e
        · rw [List.mem_singleton.mp e]; unfold ab; split <;> omega
    · obtain ⟨t, cs, v, rfl, t0, s2, hc, hl, hp⟩ := p
      refine ⟨_, rfl, _, rfl, (by show 4 ≤ sizeLine; decide), fun hd nd => ?_⟩
      refine k hd _ (s2.free nd) (same_up s2 nd) ⟨c, cs, 0, 0, t, upd_same, ne_of_none hc nd, by rw [upd_ne (ne_of_none hc nd)]; exact hc, hp, Int.le_refl _, Int.le_refl _, t0⟩
/-- _law_mixed -/
def spMix : Sp := fun vs H Q _ => ∃ n t : Int, vs = [.int n, .int t] ∧ ∀ r : Int, 0 ≤ r → Q (.int r) H
theorem sc_mix : FnScope ["_law_number", "_law_turn", "_law_once", "_law_twice"] ["_law_number", "_law_turn"] (defScope (top 25)) := ⟨rfl, rfl, rfl, by decide +kernel, rfl, by decide +kernel, by decide +kernel⟩
theorem ok_mix (B : Bn mg) (D : Dn K mg "_law_mixed" 25 ["_law_number", "_law_turn"]) : Ok P w K mg base CX0 1 "_law_mixed" ["_law_number", "_law_turn"] spMix := by
  refine D.ok sc_mix (fun vs H Q E h => ?_) (fun f cdv A outer s H vs Q E hr h => ?_)
  · obtain ⟨n, t, rfl, _⟩ := h; rfl
  · obtain ⟨n, t, rfl, k⟩ := h
    refine ⟨_, pss_cons (ps_set (i := 2) sc_mix.nd rfl (Or.inl rfl) (pe_op op_mod (i1 B (pe_op op_add (pe_op op_add (pe_op op_mul (pv 0) pe_int) (pe_op op_mul (pv 1) pe_int)) pe_int)) pe_int))
      (pss_cons (ps_set (i := 3) sc_mix.nd rfl (Or.inl rfl) (pe_op op_mod (i1 B (pe_op op_add (pe_op op_add (pe_op op_mul (pv 2) (pv 2)) (pe_op op_mul (pv 1) pe_int)) (pe_op op_fdiv (pv 2) pe_int))) pe_int))
      (pss_one (ps_ret (pe_op op_fdiv (i1 B (pe_op op_mod (i1 B (pe_op op_add (pe_op op_mul (pv 3) pe_int) (pe_op op_fdiv (pv 2) pe_int))) pe_int) rfl) pe_int)))), ?_⟩
    refine ⟨_, rfl, _, _, rfl, rfl, .inr ⟨by decide, by decide⟩, _, rfl, _, _, rfl, rfl, .inr ⟨by decide, by decide⟩, _, _, rfl, rfl, _, _, rfl, rfl, _, rfl, _, _, rfl, rfl, (by show (0 : Int) < 2147483477; decide), ?_⟩
    have o1 := Int.emod_nonneg (n * 48611 + t * 10859 + 27183) (show (2147483477 : Int) ≠ 0 by decide)
    have o2 := Int.emod_lt_of_pos (n * 48611 + t * 10859 + 27183) (show (0 : Int) < 2147483477 by decide)
    generalize (n * 48611 + t * 10859 + 27183) % 2147483477 = on at o1 o2
    refine ⟨_, rfl, _, rfl, _, _, rfl, rfl, .inl ⟨by omega, by omega⟩, _, rfl, _, _, rfl, rfl, .inr ⟨by decide, by decide⟩, _, _, rfl, rfl, _, rfl, _, _, rfl, rfl, ⟨by decide, by decide⟩, _, _, rfl, rfl, _, rfl, _, _, rfl, rfl, (by show (0 : Int) < 2147483423; decide), ?_⟩
    generalize (on * on + t * 61051 + on / 173) % 2147483423 = tw
    refine ⟨_, rfl, _, _, rfl, rfl, .inr ⟨by decide, by decide⟩, _, rfl, _, _, rfl, rfl, ⟨by decide, by decide⟩, _, _, rfl, rfl, _, rfl, _, _, rfl, rfl, (by show (0 : Int) < 2147483399; decide), _, rfl, _, _, rfl, rfl, ⟨by decide, by decide⟩, ?_⟩
    exact k _ (Int.ediv_nonneg (Int.emod_nonneg _ (by decide)) (by decide))
theorem seq_of {A B : TS} {D : Ends} {σ : L2.St} {H : Hp} (Pm : L2.St → Hp → Prop) (tail : ∀ σ' H', Pm σ' H' → B D σ' H') (first : ∀ nx : L2.St → Hp → Prop, (∀ σ' H', Pm σ' H' → nx σ' H') → A { D with nx := nx } σ H) : tSeq A B D σ H := first _ tail
/-- _law_draw -/
def spDraw : Sp := fun vs H Q _ => ∃ (hd : Addr) (many : Int), vs = [.ref hd, .int many] ∧ Hand hd H ∧ 0 < many ∧ many.natAbs < 2 ^ 200 ∧ ∀ (r : Int) H', 0 ≤ r → r < many → Kh hd H H' → Q (.int r) H'
theorem sc_draw : FnScope ["_law_hand_here", "_law_many", "_law_cell", "_law_rest"] ["_law_hand_here", "_law_many"] (defScope (top 26)) := ⟨rfl, rfl, rfl, by decide +kernel, rfl, by decide +kernel, by decide +kernel⟩
theorem ok_draw (B : Bn mg) (D : Dn K mg "_law_draw" 26 ["_law_hand_here", "_law_many"]) (FM : Ok P w K mg base CX0 1 "_law_mixed" ["_law_number", "_law_turn"] spMix) : Ok P w K mg base CX0 2 "_law_draw" ["_law_hand_here", "_law_many"] spDraw := by
  refine D.ok sc_draw (fun vs H Q E h => ?_) (fun f cdv A outer s H vs Q E hr h => ?_)
  · obtain ⟨hd, many, rfl, _⟩ := h; rfl
  · obtain ⟨hd, many, rfl, ⟨c, cells, i, rest, total, hH, hc, hC, h1, h2, h3, h4⟩, m0, m1, k⟩ := h
    refine ⟨_, pss_cons (ps_if (PW.pt (pw_and (pt_cmpR eqI (pe_ix ix_h (pv 0) pe_int (fun _ _ => rfl)) pe_int (nomark _)) (pw_and1 (pt_cmpR op_lt (pe_ix ix_h (pv 0) pe_int (fun _ _ => rfl)) (pe_callB call_len_seq (by rfl) B.len b_len (pa_cons (pe_ix ix_h (pv 0) pe_int (fun _ _ => rfl)) pa_nil)) (nomark _)))))
        (pss_cons (ps_set (i := 2) sc_draw.nd rfl (Or.inl rfl) (pe_ix ix_h (pe_ix ix_h (pv 0) pe_int (fun _ _ => rfl)) (pe_ix ix_h (pv 0) pe_int (fun _ _ => rfl)) (fun _ _ => rfl)))
        (pss_cons (ps_asg (pe_op op_add (pe_ix ix_h (pv 0) pe_int (fun _ _ => rfl)) pe_int) (pg_sub (pv 0) pe_int set_h))
        (pss_cons (ps_if (pt_cmpR op_lt (pv 2) (pe_op op_pow pe_int pe_int) (nomark _)) (pss_one (ps_ret (pe_op op_mod (i1 B (pc FM hr pass0 (pa_cons (pe_op op_mod (i1 B (pv 2)) pe_int) (pa_cons (pe_ix ix_h (pv 0) pe_int (fun _ _ => rfl)) pa_nil)))) (pv 1)))) pss_nil)
        (pss_one (ps_asg (pv 2) (pg_sub (pv 0) pe_int set_h)))))) pss_nil)
      (pss_cons (ps_if (pt_cmpR op_gt (pe_ix ix_h (pv 0) pe_int (fun _ _ => rfl)) pe_int (nomark _))
        (pss_cons (ps_set (i := 3) sc_draw.nd rfl (Or.inl rfl) (pe_ix ix_h (pv 0) pe_int (fun _ _ => rfl)))
        (pss_cons (ps_asg (pe_op op_fdivW (i1 B (pv 3)) (pv 1)) (pg_sub (pv 0) pe_int set_h))
        (pss_one (ps_ret (pe_op op_mod (i1 B (pv 3)) (pv 1)))))) pss_nil)
      (pss_cons (ps_asg (pe_op op_mod (i1 B (pe_op op_add (pe_ix ix_h (pv 0) pe_int (fun _ _ => rfl)) pe_int)) pe_int) (pg_sub (pv 0) pe_int set_h))
      (pss_one (ps_ret (pe_op op_mod (i1 B (pc FM hr pass0 (pa_cons (pe_ix ix_h (pv 0) pe_int (fun _ _ => rfl)) (pa_cons (pe_ix ix_h (pv 0) pe_int (fun _ _ => rfl)) pa_nil)))) (pv 1)))))), ?_⟩
    have em : ∀ z : Int, 0 ≤ z % many ∧ z % many < many := fun z => ⟨Int.emod_nonneg _ (by omega), Int.emod_lt_of_pos _ m0⟩
    have chd : c ≠ hd := hc
    have kc : ∀ {H1 : Hp} {r1 : List V}, ∀ c' r, H hd = some (.lst (.ref c' :: r)) → ∃ r', (upd H1 hd (.lst (.ref c :: r1))) hd = some (.lst (.ref c' :: r')) := fun {H1 r1} c' r e => by
      rw [hH] at e; cases e; exact ⟨_, upd_same⟩
    refine seq_of (fun σ' H' => ∃ (x : Option V) (i' rest' : Int), σ' = [some (.ref hd), some (.int many), x, none] ∧ H' = upd H hd (.lst [.ref c, .int i', .int rest', .int total]) ∧ 0 ≤ i' ∧ 0 ≤ rest') (fun σ' H' p => ?_) (fun nx hn => ?_)
    · obtain ⟨x, i', rest', rfl, rfl, i0, r0⟩ := p
      have hh : (upd H hd (.lst [.ref c, .int i', .int rest', .int total])) hd = some (.lst [.ref c, .int i', .int rest', .int total]) := upd_same
      have kp : ∀ o, Kp (Nh hd) H (upd (upd H hd (.lst [.ref c, .int i', .int rest', .int total])) hd o) := fun o => (Kp.put fun z => z rfl).trans (.put fun z => z rfl)
      have cc : ∀ o, (upd (upd H hd (.lst [.ref c, .int i', .int rest', .int total])) hd o) c = some (.lst (cells.map V.int)) := fun o => by rw [upd_ne chd, upd_ne chd]; exact hC
      refine ⟨_, rfl, hd, _, 2, _, rfl, rfl, hh, rfl, _, _, rfl, rfl, _, rfl, ?_⟩
      refine itd (fun c1 => ?_) (fun c1 => ?_)
      · -- some is left of a great cell
        refine ⟨_, rfl, hd, _, 2, _, rfl, rfl, hh, rfl, ?_⟩
        refine ⟨_, rfl, _, rfl, _, rfl, _, _, rfl, rfl, wide_div m0 m1 (by decide) (by decide), _, rfl, hd, _, 2, rfl, rfl, hh, (by show 2 < 4; decide), ?_⟩
        refine ⟨_, rfl, _, rfl, _, rfl, _, _, rfl, rfl, m0, ?_⟩
        exact k _ _ (em _).1 (em _).2 ⟨kp _, ⟨c, cells, i', rest' / many, total, upd_same, hc, cc _, h1, i0, Int.ediv_nonneg r0 (by omega), h4⟩, kc⟩
      · -- the total turns
        refine ⟨_, rfl, hd, _, 3, _, rfl, rfl, hh, rfl, _, _, rfl, rfl, _, rfl, _, _, rfl, rfl, (by show (0 : Int) < 2147483543; decide), _, rfl, hd, _, 3, rfl, rfl, hh, (by show 3 < 4; decide), ?_⟩
        refine ⟨_, rfl, hd, _, 3, _, rfl, rfl, upd_same, rfl, _, rfl, hd, _, 1, _, rfl, rfl, upd_same, rfl, _, _, rfl, fun q q0 => ?_⟩
        refine ⟨_, rfl, _, rfl, _, _, rfl, rfl, m0, ?_⟩
        exact k _ _ (em _).1 (em _).2 ⟨kp _, ⟨c, cells, i', rest', _, upd_same, hc, cc _, h1, i0, r0, Int.emod_nonneg _ (by decide)⟩, kc⟩
    · have same : ∀ (b o), H b = some o → upd H b o = H := fun b o e => by
        funext z
        by_cases hz : z = b
        · rw [hz, upd_same, e]
        · rw [upd_ne hz]
      refine ⟨_, rfl, hd, _, 2, _, rfl, rfl, hH, rfl, _, _, rfl, rfl, _, rfl, ?_⟩
      refine itd (fun c1 => ?_) (fun c1 => iteF (hn _ _ ⟨none, i, rest, rfl, (same _ _ hH).symm, h2, h3⟩))
      refine ⟨_, rfl, hd, _, 1, _, rfl, rfl, hH, rfl, _, rfl, hd, _, 0, _, rfl, rfl, hH, rfl, c, _, rfl, .inl (SqL.of hC), _, _, rfl, rfl, _, rfl, ?_⟩
      refine itd (fun c2 => ?_) (fun c2 => hn _ _ ⟨none, i, rest, rfl, (same _ _ hH).symm, h2, h3⟩)
      rw [List.length_map] at c2
      obtain ⟨j, rfl⟩ : ∃ j : Nat, i = (j : Int) := ⟨i.toNat, by omega⟩
      have hj : j < cells.length := by omega
      have hcell : (cells.map V.int)[j]? = some (.int cells[j]) := by simp [hj]
      have hpos := h1 _ (List.getElem_mem hj)
      refine ⟨_, rfl, hd, _, 0, _, rfl, rfl, hH, rfl, _, rfl, hd, _, 1, _, rfl, rfl, hH, rfl, c, _, j, _, rfl, rfl, hC, hcell, ?_⟩
      generalize cells[j] = cell at hpos
      refine ⟨_, rfl, hd, _, 1, _, rfl, rfl, hH, rfl, _, _, rfl, rfl, _, rfl, hd, _, 1, rfl, rfl, hH, (by show 1 < 4; decide), ?_⟩
      have hh : (upd H hd (.lst [.ref c, .int ((j : Int) + 1), .int rest, .int total])) hd = some (.lst [.ref c, .int ((j : Int) + 1), .int rest, .int total]) := upd_same
      refine ⟨_, rfl, _, _, rfl, rfl, ⟨by decide, by decide, by decide⟩, _, _, rfl, rfl, _, rfl, ?_⟩
      refine itd (fun c3 => ?_) (fun c3 => ?_)
      · refine ⟨_, rfl, _, rfl, _, _, rfl, rfl, (by show (0 : Int) < 2147483477; decide), _, rfl, hd, _, 1, _, rfl, rfl, hh, rfl, _, _, rfl, fun q q0 => ?_⟩
        refine ⟨_, rfl, _, rfl, _, _, rfl, rfl, m0, ?_⟩
        exact k _ _ (em _).1 (em _).2 ⟨.put fun z => z rfl, ⟨c, cells, _, rest, total, upd_same, hc, by rw [upd_ne chd]; exact hC, h1, by omega, h3, h4⟩, kc⟩
      · refine ⟨_, rfl, _, rfl, hd, _, 2, rfl, rfl, hh, (by show 2 < 4; decide), ?_⟩
        refine hn _ _ ⟨some (.int cell), (j : Int) + 1, cell, rfl, ?_, by omega, hpos⟩
        funext z
        by_cases hz : z = hd
        · rw [hz, upd_same, upd_same]; rfl
        · rw [upd_ne hz, upd_ne hz, upd_ne hz]
/-- _law_pick -/
def spPick : Sp := fun vs H Q _ => ∃ (hd : Addr) (d : PyData) (v : V) (ds : List PyData), vs = [.ref hd, v] ∧ Hand hd H ∧ Dt (Nh hd) H d v ∧ seqOf d = some ds ∧ 0 < ds.length ∧ ds.length < 2 ^ 60 ∧ ∀ e y H', e ∈ ds → Kh hd H H' → Dt (Nh hd) H' e y → Q y H'
theorem sc_pick : FnScope ["_law_hand_here", "_law_things"] ["_law_hand_here", "_law_things"] (defScope (top 27)) := ⟨rfl, rfl, rfl, by decide +kernel, rfl, by decide +kernel, by decide +kernel⟩
theorem ok_pick (B : Bn mg) (D : Dn K mg "_law_pick" 27 ["_law_hand_here", "_law_things"]) (FD : Ok P w K mg base CX0 2 "_law_draw" ["_law_hand_here", "_law_many"] spDraw) : Ok P w K mg base CX0 3 "_law_pick" ["_law_hand_here", "_law_things"] spPick := by
  refine D.ok sc_pick (fun vs H Q E h => ?_) (fun f cdv A outer s H vs Q E hr h => ?_)
  · obtain ⟨hd, d, v, ds, rfl, _⟩ := h; rfl
  · obtain ⟨hd, d, v, ds, rfl, hH, hv, hs, l0, l1, k⟩ := h
    refine ⟨_, pss_one (ps_ret (pe_ix ix_dt (pv 1) (pc FD hr pass0 (pa_cons (pv 0) (pa_cons (pe_callB len_dt (by rfl) B.len b_len (pa_cons (pv 1) pa_nil)) pa_nil))) (fun _ _ => rfl))), ?_⟩
    refine ⟨_, rfl, _, rfl, _, rfl, _, d, v, ds, rfl, hv, hs, hd, _, rfl, hH, by omega, by omega, fun r H' r0 r1 kh => ?_⟩
    obtain ⟨j, rfl⟩ : ∃ j : Nat, r = (j : Int) := ⟨r.toNat, by omega⟩
    have hj : j < ds.length := by omega
    exact ⟨_, d, ds, j, ds[j], hv.kp kh.1, rfl, hs, by simp [hj], fun y hy => k _ y H' (List.getElem_mem hj) kh hy⟩
/-- _law_whole of an int -/
def spWh1 : Sp := fun vs H Q _ => ∃ i : Int, vs = [.int i] ∧ Q (.bl true) H
theorem sc_wh1 : FnScope ["_law_thing"] ["_law_thing"] (defScope (top 28)) := ⟨rfl, rfl, rfl, by decide +kernel, rfl, by decide +kernel, by decide +kernel⟩
theorem ok_wh1 (B : Bn mg) (D : Dn K mg "_law_whole" 28 ["_law_thing"]) : Ok P w K mg base CX0 1 "_law_whole" ["_law_thing"] spWh1 := by
  refine D.ok sc_wh1 (fun vs H Q E h => ?_) (fun f cdv A outer s H vs Q E hr h => ?_)
  · obtain ⟨i, rfl, _⟩ := h; rfl
  · obtain ⟨i, rfl, k⟩ := h
    refine ⟨_, pss_one (ps_ret (pe_and (pe_callB isi_int (by rfl) B.isi b_isi (pa_cons (pv 0) (pa_cons (n_int B) pa_nil)))
      (pe_one (pe_not (pe_callB isi_bool (by rfl) B.isi b_isi (pa_cons (pv 0) (pa_cons (n_bool B) pa_nil))))))), ?_⟩
    exact ⟨_, rfl, fun _ => True, .int i, .int i, rfl, .int i, _, rfl, iteT ⟨_, rfl, fun _ => True, .int i, .int i, rfl, .int i, _, rfl, k⟩⟩
/-- _law_value -/
def spVal : Sp := fun vs H Q _ => ∃ (hd : Addr), vs = [.ref hd] ∧ Hand hd H ∧ ∀ (r : Int) H', -20 ≤ r → r ≤ 20 → Kh hd H H' → Q (.int r) H'
theorem sc_val : FnScope ["_law_hand_here"] ["_law_hand_here"] (defScope (top 29)) := ⟨rfl, rfl, rfl, by decide +kernel, rfl, by decide +kernel, by decide +kernel⟩
theorem ok_val (D : Dn K mg "_law_value" 29 ["_law_hand_here"]) (FD : Ok P w K mg base CX0 2 "_law_draw" ["_law_hand_here", "_law_many"] spDraw) : Ok P w K mg base CX0 3 "_law_value" ["_law_hand_here"] spVal := by
  refine D.ok sc_val (fun vs H Q E h => ?_) (fun f cdv A outer s H vs Q E hr h => ?_)
  · obtain ⟨hd, rfl, _⟩ := h; rfl
  · obtain ⟨hd, rfl, hH, k⟩ := h
    refine ⟨_, pss_cons (ps_if (pt_cmpR eqI (pc FD hr pass0 (pa_cons (pv 0) (pa_cons pe_int pa_nil))) pe_int (nomark _)) (pss_one (ps_ret (pe_op op_sub (pc FD hr pass0 (pa_cons (pv 0) (pa_cons pe_int pa_nil))) pe_int))) pss_nil)
      (pss_one (ps_ret (pe_op op_sub (pc FD hr pass0 (pa_cons (pv 0) (pa_cons pe_int pa_nil))) pe_int))), ?_⟩
    refine ⟨_, rfl, hd, 8, rfl, hH, by decide, by decide, fun r H1 r0 r1 k1 => ⟨_, _, rfl, rfl, _, rfl, ?_⟩⟩
    refine itd (fun _ => ?_) (fun _ => ?_)
    · exact ⟨_, rfl, hd, 41, rfl, k1.2, by decide, by decide, fun q H2 q0 q1 k2 => ⟨_, _, rfl, rfl, k _ _ (by omega) (by omega) (k1.trans k2)⟩⟩
    · exact ⟨_, rfl, hd, 7, rfl, k1.2, by decide, by decide, fun q H2 q0 q1 k2 => ⟨_, _, rfl, rfl, k _ _ (by omega) (by omega) (k1.trans k2)⟩⟩
end
end K8
set_option maxRecDepth 100000
set_option maxHeartbeats 1000000
/-! PD: letters, tests, moves drawn; what they do, by the law. -/
namespace K8
open PySem PySem.Spec PyProof.Rows L2 L2H
section
variable {P : Program} {w : World} {K : PySem.W.Frag} {mg : Str → Option Value} {base : Heap}
/-- moduli -/
def Mods (ms : List Int) : Prop := 0 < ms.length ∧ ms.length < 100 ∧ ∀ m ∈ ms, 1 ≤ m ∧ m ≤ 6
theorem sz_2 : 2 ≤ sizeLine := by show 2 ≤ sizeLine; decide
theorem sz_1 : 1 ≤ sizeLine := by show 1 ≤ sizeLine; decide
theorem sz_3 : 3 ≤ sizeLine := by show 3 ≤ sizeLine; decide
def spLet : Sp := fun vs H Q _ => ∃ (hd : Addr) (most : Int) (ms : List Int) (v : V), vs = [.ref hd, .int most, v] ∧ Hand hd H ∧ 0 ≤ most ∧ most ≤ 20 ∧ Mods ms ∧ Dt (Nh hd) H (.list (ms.map .int)) v ∧ ∀ (l : Lt) y H', l.rng → Kh hd H H' → Dt (Nh hd) H' l.enc y → Q y H'
theorem sc_let : FnScope ["_law_hand_here", "_law_most", "_law_moduli", "_law_kind"] ["_law_hand_here", "_law_most", "_law_moduli"] (defScope (top 30)) := ⟨rfl, rfl, rfl, by decide +kernel, rfl, by decide +kernel, by decide +kernel⟩
theorem ok_let (D : Dn K mg "_law_letter" 30 ["_law_hand_here", "_law_most", "_law_moduli"]) (FD : Ok P w K mg base CX0 2 "_law_draw" ["_law_hand_here", "_law_many"] spDraw)
    (FP : Ok P w K mg base CX0 3 "_law_pick" ["_law_hand_here", "_law_things"] spPick) (FV : Ok P w K mg base CX0 3 "_law_value" ["_law_hand_here"] spVal) : Ok P w K mg base CX0 4 "_law_letter" ["_law_hand_here", "_law_most", "_law_moduli"] spLet := by
  refine D.ok sc_let (fun vs H Q E h => ?_) (fun f cdv A outer s H vs Q E hr h => ?_)
  · obtain ⟨hd, most, ms, v, rfl, _⟩ := h; rfl
  · obtain ⟨hd, most, ms, v, rfl, hH, m0, m1, hms, hv, k⟩ := h
    have hr2 : Room 2 _ := hr.mono (by decide)
    refine ⟨_, pss_cons (ps_set (i := 3) sc_let.nd rfl (Or.inl rfl) (pc FD hr2 pass0 (pa_cons (pv 0) (pa_cons pe_int pa_nil))))
      (pss_cons (ps_if (pt_cmpR op_lt (pv 3) pe_int (nomark _)) (pss_one (ps_ret (pe_tup (pa_cons pe_str (pa_cons (pe_op op_sub (pc FD hr2 pass0 (pa_cons (pv 0) (pa_cons (pe_op op_add (pe_op op_mul pe_int (pv 1)) pe_int) pa_nil))) (pv 1)) pa_nil))))) pss_nil)
      (pss_cons (ps_if (pt_cmpR eqI (pv 3) pe_int (nomark _)) (pss_one (ps_ret (pe_tup (pa_cons pe_str (pa_cons (pc FV hr pass0 (pa_cons (pv 0) pa_nil)) pa_nil))))) pss_nil)
      (pss_cons (ps_if (pt_cmpR eqI (pv 3) pe_int (nomark _)) (pss_one (ps_ret (pe_tup (pa_cons pe_str pa_nil)))) pss_nil)
      (pss_cons (ps_if (pt_cmpR eqI (pv 3) pe_int (nomark _)) (pss_one (ps_ret (pe_tup (pa_cons pe_str (pa_cons (pc FP hr pass0 (pa_cons (pv 0) (pa_cons (pv 2) pa_nil))) pa_nil))))) pss_nil)
      (pss_one (ps_ret (pe_tup (pa_cons pe_str (pa_cons (pv 1) pa_nil))))))))), ?_⟩
    refine ⟨_, rfl, hd, 8, rfl, hH, by decide, by decide, fun r H1 r0 r1 k1 => ?_⟩
    have fin : ∀ (l : Lt) {H2 : Hp} {xs : List V} {ds : List PyData} {p : Addr}, l.rng → Kh hd H H2 → H2 p = none → l.enc = .tuple ds → DtL (Nh hd) H2 ds xs → Q (.ref p) (upd H2 p (.tup xs)) := fun l {H2 xs ds p} hl k2 np e r =>
      k l _ _ hl (k2.same (same_new np)) (by rw [e]; exact Dt.newT (k2.2.none np) np r)
    refine ⟨_, rfl, _, _, rfl, rfl, _, rfl, itd (fun _ => ?_) (fun _ => ?_)⟩
    · refine ⟨_, rfl, _, rfl, _, _, rfl, rfl, .inl ⟨by decide, by decide⟩, _, _, rfl, rfl, hd, 2 * most + 1, rfl, k1.2, by omega, by omega, fun q H2 q0 q1 k2 => ?_⟩
      refine ⟨_, rfl, _, _, rfl, rfl, sz_2, fun p np => fin (.add (q - most)) (show -20 ≤ q - most ∧ q - most ≤ 20 by omega) (k1.trans k2) np rfl (.cons (.str _) (.cons (.int _) .nil))⟩
    refine ⟨_, rfl, _, _, rfl, rfl, _, rfl, itd (fun _ => ?_) (fun _ => ?_)⟩
    · exact ⟨_, rfl, hd, rfl, k1.2, fun q H2 q0 q1 k2 => ⟨sz_2, fun p np => fin (.set q) ⟨q0, q1⟩ (k1.trans k2) np rfl (.cons (.str _) (.cons (.int _) .nil))⟩⟩
    refine ⟨_, rfl, _, _, rfl, rfl, _, rfl, itd (fun _ => ?_) (fun _ => ?_)⟩
    · exact ⟨sz_1, fun p np => fin .turn trivial k1 np rfl (.cons (.str _) .nil)⟩
    refine ⟨_, rfl, _, _, rfl, rfl, _, rfl, itd (fun _ => ?_) (fun _ => ?_)⟩
    · refine ⟨_, rfl, _, rfl, hd, _, v, _, rfl, k1.2, hv.kp k1.1, rfl, by rw [List.length_map]; exact hms.1, by rw [List.length_map]; have := hms.2.1; omega, fun e y H2 he k2 hy => ?_⟩
      obtain ⟨m, hm, rfl⟩ := List.mem_map.mp he
      cases hy
      exact ⟨sz_2, fun p np => fin (.mod m) (hms.2.2 m hm) (k1.trans k2) np rfl (.cons (.str _) (.cons (.int _) .nil))⟩
    · exact ⟨_, rfl, sz_2, fun p np => fin (.add most) (show -20 ≤ most ∧ most ≤ 20 by omega) k1 np rfl (.cons (.str _) (.cons (.int _) .nil))⟩
def spTst : Sp := fun vs H Q _ => ∃ (hd : Addr) (ms : List Int) (v : V), vs = [.ref hd, v] ∧ Hand hd H ∧ Mods ms ∧ Dt (Nh hd) H (.list (ms.map .int)) v ∧ ∀ (l : Ts) y H', l.rng → Kh hd H H' → Dt (Nh hd) H' l.enc y → Q y H'
theorem sc_tst : FnScope ["_law_hand_here", "_law_moduli", "_law_kind", "_law_m"] ["_law_hand_here", "_law_moduli"] (defScope (top 31)) := ⟨rfl, rfl, rfl, by decide +kernel, rfl, by decide +kernel, by decide +kernel⟩
theorem ok_tst (D : Dn K mg "_law_test" 31 ["_law_hand_here", "_law_moduli"]) (FD : Ok P w K mg base CX0 2 "_law_draw" ["_law_hand_here", "_law_many"] spDraw)
    (FP : Ok P w K mg base CX0 3 "_law_pick" ["_law_hand_here", "_law_things"] spPick) (FV : Ok P w K mg base CX0 3 "_law_value" ["_law_hand_here"] spVal) : Ok P w K mg base CX0 4 "_law_test" ["_law_hand_here", "_law_moduli"] spTst := by
  refine D.ok sc_tst (fun vs H Q E h => ?_) (fun f cdv A outer s H vs Q E hr h => ?_)
  · obtain ⟨hd, ms, v, rfl, _⟩ := h; rfl
  · obtain ⟨hd, ms, v, rfl, hH, hms, hv, k⟩ := h
    have hr2 : Room 2 _ := hr.mono (by decide)
    refine ⟨_, pss_cons (ps_set (i := 2) sc_tst.nd rfl (Or.inl rfl) (pc FD hr2 pass0 (pa_cons (pv 0) (pa_cons pe_int pa_nil))))
      (pss_cons (ps_if (pt_cmpR eqI (pv 2) pe_int (nomark _)) (pss_one (ps_ret (pe_tup (pa_cons pe_str (pa_cons (pc FV hr pass0 (pa_cons (pv 0) pa_nil)) pa_nil))))) pss_nil)
      (pss_cons (ps_if (pt_cmpR eqI (pv 2) pe_int (nomark _)) (pss_one (ps_ret (pe_tup (pa_cons pe_str (pa_cons (pc FV hr pass0 (pa_cons (pv 0) pa_nil)) pa_nil))))) pss_nil)
      (pss_cons (ps_set (i := 3) sc_tst.nd rfl (Or.inl rfl) (pc FP hr pass0 (pa_cons (pv 0) (pa_cons (pv 1) pa_nil))))
      (pss_one (ps_ret (pe_tup (pa_cons pe_str (pa_cons (pv 3) (pa_cons (pc FD hr2 pass0 (pa_cons (pv 0) (pa_cons (pv 3) pa_nil))) pa_nil))))))))), ?_⟩
    refine ⟨_, rfl, hd, 4, rfl, hH, by decide, by decide, fun r H1 r0 r1 k1 => ?_⟩
    have fin : ∀ (l : Ts) {H2 : Hp} {xs : List V} {ds : List PyData} {p : Addr}, l.rng → Kh hd H H2 → H2 p = none → l.enc = .tuple ds → DtL (Nh hd) H2 ds xs → Q (.ref p) (upd H2 p (.tup xs)) := fun l {H2 xs ds p} hl k2 np e r =>
      k l _ _ hl (k2.same (same_new np)) (by rw [e]; exact Dt.newT (k2.2.none np) np r)
    refine ⟨_, rfl, _, _, rfl, rfl, _, rfl, itd (fun _ => ?_) (fun _ => ?_)⟩
    · exact ⟨_, rfl, hd, rfl, k1.2, fun q H2 q0 q1 k2 => ⟨sz_2, fun p np => fin (.below q) ⟨q0, q1⟩ (k1.trans k2) np rfl (.cons (.str _) (.cons (.int _) .nil))⟩⟩
    refine ⟨_, rfl, _, _, rfl, rfl, _, rfl, itd (fun _ => ?_) (fun _ => ?_)⟩
    · exact ⟨_, rfl, hd, rfl, k1.2, fun q H2 q0 q1 k2 => ⟨sz_2, fun p np => fin (.is q) ⟨q0, q1⟩ (k1.trans k2) np rfl (.cons (.str _) (.cons (.int _) .nil))⟩⟩
    refine ⟨_, rfl, _, rfl, hd, _, v, _, rfl, k1.2, hv.kp k1.1, rfl, by rw [List.length_map]; exact hms.1, by rw [List.length_map]; have := hms.2.1; omega, fun e y H2 he k2 hy => ?_⟩
    obtain ⟨m, hm, rfl⟩ := List.mem_map.mp he
    cases hy
    obtain ⟨b1, b2⟩ := hms.2.2 m hm
    exact ⟨_, rfl, _, rfl, _, rfl, hd, m, rfl, k2.2, by omega, by omega, fun q H3 q0 q1 k3 => ⟨sz_3, fun p np => fin (.rest m q) ⟨b1, b2, q0, q1⟩ ((k1.trans k2).trans k3) np rfl (.cons (.str _) (.cons (.int _) (.cons (.int _) .nil)))⟩⟩

/-! ### what they do -/
def spLDeed : Sp := fun vs H Q _ => ∃ (N : Addr → Prop) (l : Lt) (v : V) (n : Int), vs = [v, .int n] ∧ Dt N H l.enc v ∧ l.rng ∧ Q (.int (l.run n)) H
theorem sc_deed : FnScope ["_law_letter_here", "_law_number"] ["_law_letter_here", "_law_number"] (defScope (top 32)) := ⟨rfl, rfl, rfl, by decide +kernel, rfl, by decide +kernel, by decide +kernel⟩
theorem ok_deed (D : Dn K mg "_law_deed" 32 ["_law_letter_here", "_law_number"]) : Ok P w K mg base CX0 1 "_law_deed" ["_law_letter_here", "_law_number"] spLDeed := by
  refine D.ok sc_deed (fun vs H Q E h => ?_) (fun f cdv A outer s H vs Q E hr h => ?_)
  · obtain ⟨N, l, v, n, rfl, _⟩ := h; rfl
  · obtain ⟨N, l, v, n, rfl, hd, hok, k⟩ := h
    refine ⟨_, pss_cons (ps_if (pt_cmpR eqS (pe_ix ix_dt (pv 0) pe_int (fun _ _ => rfl)) pe_str (nomark _)) (pss_one (ps_ret (pe_ix ix_dt (pv 0) pe_int (fun _ _ => rfl)))) pss_nil)
      (pss_cons (ps_if (pt_cmpR eqS (pe_ix ix_dt (pv 0) pe_int (fun _ _ => rfl)) pe_str (nomark _)) (pss_one (ps_ret (pe_op op_add (pv 1) (pe_ix ix_dt (pv 0) pe_int (fun _ _ => rfl))))) pss_nil)
      (pss_cons (ps_if (pt_cmpR eqS (pe_ix ix_dt (pv 0) pe_int (fun _ _ => rfl)) pe_str (nomark _)) (pss_one (ps_ret (pe_op op_sub pe_int (pv 1)))) pss_nil)
      (pss_one (ps_ret (pe_op op_sub (pv 1) (pe_op op_mul (pe_ix ix_dt (pv 0) pe_int (fun _ _ => rfl)) (pe_op op_fdiv (pv 1) (pe_ix ix_dt (pv 0) pe_int (fun _ _ => rfl))))))))), ?_⟩
    cases l with
    | set z =>
      refine ⟨_, rfl, N, _, _, 0, _, hd, rfl, rfl, rfl, fun v1 h1 => ?_⟩
      cases h1
      refine ⟨_, _, rfl, rfl, _, rfl, iteT ⟨_, rfl, N, _, _, 1, _, hd, rfl, rfl, rfl, fun v2 h2 => ?_⟩⟩
      cases h2
      exact k
    | add z =>
      refine ⟨_, rfl, N, _, _, 0, _, hd, rfl, rfl, rfl, fun v1 h1 => ?_⟩
      cases h1
      refine ⟨_, _, rfl, rfl, _, rfl, itno (by decide +kernel) ⟨_, rfl, N, _, _, 0, _, hd, rfl, rfl, rfl, fun v1 h1 => ?_⟩⟩
      cases h1
      refine ⟨_, _, rfl, rfl, _, rfl, iteT ⟨_, rfl, _, rfl, N, _, _, 1, _, hd, rfl, rfl, rfl, fun v2 h2 => ?_⟩⟩
      cases h2
      exact ⟨_, _, rfl, rfl, k⟩
    | turn =>
      refine ⟨_, rfl, N, _, _, 0, _, hd, rfl, rfl, rfl, fun v1 h1 => ?_⟩
      cases h1
      refine ⟨_, _, rfl, rfl, _, rfl, itno (by decide +kernel) ⟨_, rfl, N, _, _, 0, _, hd, rfl, rfl, rfl, fun v1 h1 => ?_⟩⟩
      cases h1
      refine ⟨_, _, rfl, rfl, _, rfl, itno (by decide +kernel) ⟨_, rfl, N, _, _, 0, _, hd, rfl, rfl, rfl, fun v1 h1 => ?_⟩⟩
      cases h1
      refine ⟨_, _, rfl, rfl, _, rfl, iteT ⟨_, rfl, _, _, rfl, rfl, ?_⟩⟩
      have e : (0 : Int) - n = -n := by omega
      show Q (.int (0 - n)) H
      rw [e]; exact k
    | mod m =>
      refine ⟨_, rfl, N, _, _, 0, _, hd, rfl, rfl, rfl, fun v1 h1 => ?_⟩
      cases h1
      refine ⟨_, _, rfl, rfl, _, rfl, itno (by decide +kernel) ⟨_, rfl, N, _, _, 0, _, hd, rfl, rfl, rfl, fun v1 h1 => ?_⟩⟩
      cases h1
      refine ⟨_, _, rfl, rfl, _, rfl, itno (by decide +kernel) ⟨_, rfl, N, _, _, 0, _, hd, rfl, rfl, rfl, fun v1 h1 => ?_⟩⟩
      cases h1
      have m1 : 1 ≤ m := hok.1
      have m6 : m ≤ 6 := hok.2
      refine ⟨_, _, rfl, rfl, _, rfl, itno (by decide +kernel) ⟨_, rfl, _, rfl, N, _, _, 1, _, hd, rfl, rfl, rfl, fun v2 h2 => ?_⟩⟩
      cases h2
      refine ⟨_, rfl, _, rfl, N, _, _, 1, _, hd, rfl, rfl, rfl, fun v2 h2 => ?_⟩
      cases h2
      refine ⟨_, _, rfl, rfl, ⟨by omega, by omega⟩, _, _, rfl, rfl, .inl ⟨by omega, by omega⟩, _, _, rfl, rfl, ?_⟩
      have e : n - m * (n / m) = n % m := by have := Int.mul_ediv_add_emod n m; omega
      show Q (.int (n - m * (n / m))) H
      rw [e]; exact k
def spLPass : Sp := fun vs H Q _ => ∃ (N : Addr → Prop) (t : Ts) (v : V) (n : Int), vs = [v, .int n] ∧ Dt N H t.enc v ∧ t.rng ∧ Q (.bl (t.pass n)) H
theorem sc_lpass : FnScope ["_law_test_here", "_law_number"] ["_law_test_here", "_law_number"] (defScope (top 33)) := ⟨rfl, rfl, rfl, by decide +kernel, rfl, by decide +kernel, by decide +kernel⟩
theorem ok_lpass (B : Bn mg) (D : Dn K mg "_law_passes" 33 ["_law_test_here", "_law_number"]) : Ok P w K mg base CX0 1 "_law_passes" ["_law_test_here", "_law_number"] spLPass := by
  refine D.ok sc_lpass (fun vs H Q E h => ?_) (fun f cdv A outer s H vs Q E hr h => ?_)
  · obtain ⟨N, l, v, n, rfl, _⟩ := h; rfl
  · obtain ⟨N, l, v, n, rfl, hd, hok, k⟩ := h
    refine ⟨_, pss_cons (ps_if (pt_cmpR eqS (pe_ix ix_dt (pv 0) pe_int (fun _ _ => rfl)) pe_str (nomark _)) (pss_one (ps_ret (pe_cmpR op_lt (pv 1) (pe_ix ix_dt (pv 0) pe_int (fun _ _ => rfl)) (nomark _)))) pss_nil)
      (pss_cons (ps_if (pt_cmpR eqS (pe_ix ix_dt (pv 0) pe_int (fun _ _ => rfl)) pe_str (nomark _)) (pss_one (ps_ret (pe_cmpR eqI (pv 1) (pe_ix ix_dt (pv 0) pe_int (fun _ _ => rfl)) (nomark _)))) pss_nil)
      (pss_one (ps_ret (pe_cmpR eqI (pe_op op_mod (i1 B (pe_op op_sub (pv 1) (pe_ix ix_dt (pv 0) pe_int (fun _ _ => rfl)))) (pe_ix ix_dt (pv 0) pe_int (fun _ _ => rfl))) pe_int (nomark _))))), ?_⟩
    cases l with
    | below z =>
      refine ⟨_, rfl, N, _, _, 0, _, hd, rfl, rfl, rfl, fun v1 h1 => ?_⟩
      cases h1
      refine ⟨_, _, rfl, rfl, _, rfl, iteT ⟨_, rfl, _, rfl, N, _, _, 1, _, hd, rfl, rfl, rfl, fun v2 h2 => ?_⟩⟩
      cases h2
      exact ⟨_, _, rfl, rfl, k⟩
    | is z =>
      refine ⟨_, rfl, N, _, _, 0, _, hd, rfl, rfl, rfl, fun v1 h1 => ?_⟩
      cases h1
      refine ⟨_, _, rfl, rfl, _, rfl, itno (by decide +kernel) ⟨_, rfl, N, _, _, 0, _, hd, rfl, rfl, rfl, fun v1 h1 => ?_⟩⟩
      cases h1
      refine ⟨_, _, rfl, rfl, _, rfl, iteT ⟨_, rfl, _, rfl, N, _, _, 1, _, hd, rfl, rfl, rfl, fun v2 h2 => ?_⟩⟩
      cases h2
      exact ⟨_, _, rfl, rfl, k⟩
    | rest m r =>
      obtain ⟨m1, m6, r0, r1⟩ := hok
      refine ⟨_, rfl, N, _, _, 0, _, hd, rfl, rfl, rfl, fun v1 h1 => ?_⟩
      cases h1
      refine ⟨_, _, rfl, rfl, _, rfl, itno (by decide +kernel) ⟨_, rfl, N, _, _, 0, _, hd, rfl, rfl, rfl, fun v1 h1 => ?_⟩⟩
      cases h1
      refine ⟨_, _, rfl, rfl, _, rfl, itno (by decide +kernel) ⟨_, rfl, _, rfl, N, _, _, 2, _, hd, rfl, rfl, rfl, fun v2 h2 => ?_⟩⟩
      cases h2
      refine ⟨_, _, rfl, rfl, _, rfl, _, rfl, N, _, _, 1, _, hd, rfl, rfl, rfl, fun v2 h2 => ?_⟩
      cases h2
      refine ⟨_, _, rfl, rfl, by show 0 < m; omega, _, _, rfl, rfl, ?_⟩
      have e : decide ((n - r) % m = 0) = decide (n % m = r) := by
        refine decide_eq_decide.mpr ⟨fun h => ?_, fun h => ?_⟩
        · obtain ⟨q, hq⟩ := Int.dvd_of_emod_eq_zero h
          have h2 : n = r + m * q := by omega
          rw [h2, Int.add_mul_emod_self_left, Int.emod_eq_of_lt r0 r1]
        · have h2 := Int.mul_ediv_add_emod n m
          have h3 : n - r = m * (n / m) := by omega
          rw [h3]; exact Int.mul_emod_right _ _
      show Q (.bl (decide ((n - r) % m = 0))) H
      rw [e]; exact k
def spLMv : Sp := fun vs H Q _ => ∃ (N : Addr → Prop) (m : Mv) (v : V) (n : Int), vs = [v, .int n] ∧ Dt N H m.enc v ∧ m.rng ∧ Q (oV (m.run n)) H
theorem sc_moved : FnScope ["_law_move_here", "_law_number"] ["_law_move_here", "_law_number"] (defScope (top 34)) := ⟨rfl, rfl, rfl, by decide +kernel, rfl, by decide +kernel, by decide +kernel⟩
theorem ok_moved (D : Dn K mg "_law_moved" 34 ["_law_move_here", "_law_number"]) (FL : Ok P w K mg base CX0 1 "_law_deed" ["_law_letter_here", "_law_number"] spLDeed) (FT : Ok P w K mg base CX0 1 "_law_passes" ["_law_test_here", "_law_number"] spLPass) :
    Ok P w K mg base CX0 2 "_law_moved" ["_law_move_here", "_law_number"] spLMv := by
  refine D.ok sc_moved (fun vs H Q E h => ?_) (fun f cdv A outer s H vs Q E hr h => ?_)
  · obtain ⟨N, l, v, n, rfl, _⟩ := h; rfl
  · obtain ⟨N, m, v, n, rfl, hd, hok, k⟩ := h
    refine ⟨_, pss_cons (ps_if (pt_cmpR eqS (pe_ix ix_dt (pv 0) pe_int (fun _ _ => rfl)) pe_str (nomark _)) (pss_one (ps_ret (pv 1))) pss_nil)
      (pss_cons (ps_if (pt_cmpR eqS (pe_ix ix_dt (pv 0) pe_int (fun _ _ => rfl)) pe_str (nomark _)) (pss_one (ps_ret (pc FL hr pass0 (pa_cons (pe_ix ix_dt (pv 0) pe_int (fun _ _ => rfl)) (pa_cons (pv 1) pa_nil))))) pss_nil)
      (pss_cons (ps_if (pt_cmpR eqB (pc FT hr pass0 (pa_cons (pe_ix ix_dt (pv 0) pe_int (fun _ _ => rfl)) (pa_cons (pv 1) pa_nil))) (pe_cmpR eqS (pe_ix ix_dt (pv 0) pe_int (fun _ _ => rfl)) pe_str (nomark _)) (nomark _)) (pss_one (ps_ret (pv 1))) pss_nil)
      (pss_one (ps_ret pe_non)))), ?_⟩
    cases m with
    | stay =>
      refine ⟨_, rfl, N, _, _, 0, _, hd, rfl, rfl, rfl, fun v1 h1 => ?_⟩
      cases h1
      exact ⟨_, _, rfl, rfl, _, rfl, iteT ⟨_, rfl, k⟩⟩
    | deed l =>
      refine ⟨_, rfl, N, _, _, 0, _, hd, rfl, rfl, rfl, fun v1 h1 => ?_⟩
      cases h1
      refine ⟨_, _, rfl, rfl, _, rfl, itno (by decide +kernel) ⟨_, rfl, N, _, _, 0, _, hd, rfl, rfl, rfl, fun v1 h1 => ?_⟩⟩
      cases h1
      exact ⟨_, _, rfl, rfl, _, rfl, iteT ⟨_, rfl, N, _, _, 1, _, hd, rfl, rfl, rfl, fun v2 h2 => ⟨_, rfl, N, l, v2, n, rfl, h2, hok, k⟩⟩⟩
    | so t =>
      refine ⟨_, rfl, N, _, _, 0, _, hd, rfl, rfl, rfl, fun v1 h1 => ?_⟩
      cases h1
      refine ⟨_, _, rfl, rfl, _, rfl, itno (by decide +kernel) ⟨_, rfl, N, _, _, 0, _, hd, rfl, rfl, rfl, fun v1 h1 => ?_⟩⟩
      cases h1
      refine ⟨_, _, rfl, rfl, _, rfl, itno (by decide +kernel) ⟨_, rfl, N, _, _, 1, _, hd, rfl, rfl, rfl, fun v2 h2 => ⟨_, rfl, N, t, v2, n, rfl, h2, hok, ?_⟩⟩⟩
      refine ⟨_, rfl, N, _, _, 0, _, hd, rfl, rfl, rfl, fun v3 h3 => ?_⟩
      cases h3
      refine ⟨_, _, rfl, rfl, _, _, rfl, rfl, _, rfl, ?_⟩
      have e : (t.pass n == decide (Str.ofString "so" = Str.ofString "so")) = t.pass n := by rw [decide_eq_true rfl]; simp
      rw [e]
      have kk : Q (oV (if t.pass n then some n else none)) H := k
      refine itb (fun c => ⟨_, rfl, ?_⟩) (fun c => ?_)
      · rw [if_pos c] at kk; exact kk
      · rw [if_neg (by rw [c]; exact Bool.false_ne_true)] at kk; exact kk
    | nt t =>
      refine ⟨_, rfl, N, _, _, 0, _, hd, rfl, rfl, rfl, fun v1 h1 => ?_⟩
      cases h1
      refine ⟨_, _, rfl, rfl, _, rfl, itno (by decide +kernel) ⟨_, rfl, N, _, _, 0, _, hd, rfl, rfl, rfl, fun v1 h1 => ?_⟩⟩
      cases h1
      refine ⟨_, _, rfl, rfl, _, rfl, itno (by decide +kernel) ⟨_, rfl, N, _, _, 1, _, hd, rfl, rfl, rfl, fun v2 h2 => ⟨_, rfl, N, t, v2, n, rfl, h2, hok, ?_⟩⟩⟩
      refine ⟨_, rfl, N, _, _, 0, _, hd, rfl, rfl, rfl, fun v3 h3 => ?_⟩
      cases h3
      refine ⟨_, _, rfl, rfl, _, _, rfl, rfl, _, rfl, ?_⟩
      have e : (t.pass n == decide (Str.ofString "not" = Str.ofString "so")) = !t.pass n := by rw [show decide (Str.ofString "not" = Str.ofString "so") = false by decide +kernel]; simp
      rw [e]
      have kk : Q (oV (if t.pass n then none else some n)) H := k
      refine itnb (fun c => ⟨_, rfl, ?_⟩) (fun c => ?_)
      · rw [if_neg (by rw [c]; exact Bool.false_ne_true)] at kk; exact kk
      · rw [if_pos c] at kk; exact kk
end
end K8
set_option maxRecDepth 100000
set_option maxHeartbeats 1000000
/-! Kd: displays of data beside a hand, told by predicates on the data. -/
namespace K8
open PySem PySem.Spec PyProof.Rows L2 L2H

def gD (hd : Addr) (S : L2.St → Prop) (p : PyData → Prop) : TE := fun σ H Q => S σ ∧ Hand hd H ∧ ∀ d v H', p d → Kh hd H H' → Dt (Nh hd) H' d v → Q v H'
def gDs (hd : Addr) (S : L2.St → Prop) (p : List PyData → Prop) : TA := fun σ H Q => S σ ∧ Hand hd H ∧ ∀ ds vs H', p ds → Kh hd H H' → DtL (Nh hd) H' ds vs → Q vs H'
theorem szl_100 {n : Nat} (h : n ≤ 100) : n ≤ sizeLine := by rw [sizeLine_eq]; omega
section
variable {X : Cx} {hd : Addr} {S : L2.St → Prop} {e : Expr} {es : List Expr} {p : PyData → Prop} {ps : List PyData → Prop} {pos : Pos}
theorem PA.imp {t t' : TA} (h : PA X es t) (k : ∀ σ H Q, t' σ H Q → t σ H Q) : PA X es t' := ⟨fun pos pins s σ H Q I q => h.run pos pins s σ H Q I (k σ H Q q)⟩
theorem gd_imp {q : PyData → Prop} (h : PE X e (gD hd S q)) (k : ∀ d, q d → p d) : PE X e (gD hd S p) := PE.imp h fun _ _ _ ⟨a, b, c⟩ => ⟨a, b, fun d v H' z => c d v H' (k d z)⟩
theorem gds_imp {q : List PyData → Prop} (h : PA X es (gDs hd S q)) (k : ∀ d, q d → ps d) : PA X es (gDs hd S ps) := PA.imp h fun _ _ _ ⟨a, b, c⟩ => ⟨a, b, fun d v H' z => c d v H' (k d z)⟩
theorem gd_int {i : Int} {j} : PE X (.Constant (.int i) j pos) (gD hd S (· = .int i)) := PE.imp pe_int fun _ H _ ⟨_, b, c⟩ => c _ _ H rfl b.refl (.int i)
theorem gd_neg {i : Int} {j} {pos2 : Pos} : PE X (.UnaryOp .USub (.Constant (.int i) j pos) pos2) (gD hd S (· = .int (-i))) := PE.imp (pe_un un_neg pe_int) fun _ H _ ⟨_, b, c⟩ => ⟨i, rfl, c _ _ H rfl b.refl (.int (-i))⟩
theorem gd_bl {i : Bool} {j} : PE X (.Constant (.bool i) j pos) (gD hd S (· = .bool i)) := PE.imp pe_bl fun _ H _ ⟨_, b, c⟩ => c _ _ H rfl b.refl (.bl i)
theorem gd_str {i : Str} {j} : PE X (.Constant (.str i) j pos) (gD hd S (· = .str i)) := PE.imp pe_str fun _ H _ ⟨_, b, c⟩ => c _ _ H rfl b.refl (.str i)
theorem gd_non {j} : PE X (.Constant .none j pos) (gD hd S (· = .none)) := PE.imp pe_non fun _ H _ ⟨_, b, c⟩ => c _ _ H rfl b.refl .non
theorem gds_nil : PA X [] (gDs hd S (· = [])) := PA.imp pa_nil fun _ H _ ⟨_, b, c⟩ => c _ _ H rfl b.refl .nil
theorem gds_cons (h : PE X e (gD hd S p)) (r : PA X es (gDs hd S ps)) (hs : starEach (e :: es) X.env = (false, eval e X.env) :: starEach es X.env := by rfl) : PA X (e :: es) (gDs hd S fun l => ∃ d r, l = d :: r ∧ p d ∧ ps r) :=
  PA.imp (pa_cons h r hs) fun _ H _ ⟨a, b, c⟩ => ⟨a, b, fun d v H1 hp k1 hv => ⟨a, k1.2, fun ds vs H2 hps k2 hvs => c _ _ H2 ⟨d, ds, rfl, hp, hps⟩ (k1.trans k2) (.cons (hv.kp k2.1) hvs)⟩⟩
/-- each exactly -/
theorem gds_e {d : PyData} {ds : List PyData} (h : PE X e (gD hd S (· = d))) (r : PA X es (gDs hd S (· = ds))) (hs : starEach (e :: es) X.env = (false, eval e X.env) :: starEach es X.env := by rfl) : PA X (e :: es) (gDs hd S (· = d :: ds)) :=
  gds_imp (gds_cons h r hs) fun l ⟨a, b, e1, e2, e3⟩ => by rw [e1, e2, e3]
/-- all of one kind -/
theorem gds_all0 : PA X [] (gDs hd S fun l => (∀ d ∈ l, p d) ∧ l.length = 0) := gds_imp gds_nil fun l e => by rw [e]; exact ⟨fun d h => (by cases h), rfl⟩
theorem gds_all {n : Nat} (h : PE X e (gD hd S p)) (r : PA X es (gDs hd S fun l => (∀ d ∈ l, p d) ∧ l.length = n)) (hs : starEach (e :: es) X.env = (false, eval e X.env) :: starEach es X.env := by rfl) : PA X (e :: es) (gDs hd S fun l => (∀ d ∈ l, p d) ∧ l.length = n + 1) :=
  gds_imp (gds_cons h r hs) fun l ⟨a, b, e1, e2, e3⟩ => by
    rw [e1]
    refine ⟨fun d hd => ?_, by rw [List.length_cons, e3.2]⟩
    rcases List.mem_cons.mp hd with q | q
    · rw [q]; exact e2
    · exact e3.1 d q
theorem gd_tup {kk} (h : PA X es (gDs hd S ps)) (hz : ∀ ds, ps ds → ds.length ≤ 100) : PE X (.Tuple es kk pos) (gD hd S fun d => ∃ ds, d = .tuple ds ∧ ps ds) :=
  PE.imp (pe_tup h) fun _ H _ ⟨a, b, c⟩ => ⟨a, b, fun ds vs H' z k r => ⟨szl_100 (by rw [← r.len]; exact hz ds z), fun q nq => c _ _ _ ⟨ds, rfl, z⟩ (k.same (same_new nq)) (Dt.newT (k.2.none nq) nq r)⟩⟩
theorem gd_lst (h : PA X es (gDs hd S ps)) (hz : ∀ ds, ps ds → ds.length ≤ 100) : PE X (.List es pos) (gD hd S fun d => ∃ ds, d = .list ds ∧ ps ds) :=
  PE.imp (pe_lst h) fun _ H _ ⟨a, b, c⟩ => ⟨a, b, fun ds vs H' z k r => ⟨szl_100 (by rw [← r.len]; exact hz ds z), fun q nq => c _ _ _ ⟨ds, rfl, z⟩ (k.same (same_new nq)) (Dt.newL (k.2.none nq) nq r)⟩⟩
theorem gd_tupE {kk} {ds : List PyData} (h : PA X es (gDs hd S (· = ds))) (hz : ds.length ≤ 100 := by decide) : PE X (.Tuple es kk pos) (gD hd S (· = .tuple ds)) := gd_imp (gd_tup h fun l e => by rw [e]; exact hz) fun d ⟨l, e1, e2⟩ => by rw [e1, e2]
theorem gd_lstE {ds : List PyData} (h : PA X es (gDs hd S (· = ds))) (hz : ds.length ≤ 100 := by decide) : PE X (.List es pos) (gD hd S (· = .list ds)) := gd_imp (gd_lst h fun l e => by rw [e]; exact hz) fun d ⟨l, e1, e2⟩ => by rw [e1, e2]
/-- a name: its slot holds something simple -/
theorem gd_var {x : Str} {px : Pos} (i : Nat) (hx : PE X (.Name x px) (tVar i)) (hS : ∀ σ, S σ → ∃ v d, σ[i]? = some (some v) ∧ p d ∧ ∀ N H, Dt N H d v) : PE X (.Name x px) (gD hd S p) :=
  PE.imp hx fun σ H _ ⟨a, b, c⟩ => let ⟨v, d, e, hp, hv⟩ := hS σ a; ⟨v, e, c d v H hp b.refl (hv _ _)⟩
end
end K8
set_option maxRecDepth 100000
set_option maxHeartbeats 1000000
/-! Q1: moves and shapes drawn. -/
namespace K8
open PySem PySem.Spec PyProof.Rows L2 L2H
section
variable {P : Program} {w : World} {K : PySem.W.Frag} {mg : Str → Option Value} {base : Heap}
def spMove : Sp := fun vs H Q _ => ∃ (hd : Addr) (most : Int) (ms : List Int) (v : V), vs = [.ref hd, .int most, v] ∧ Hand hd H ∧ 0 ≤ most ∧ most ≤ 20 ∧ Mods ms ∧ Dt (Nh hd) H (.list (ms.map .int)) v ∧ ∀ (l : Mv) y H', l.rng → Kh hd H H' → Dt (Nh hd) H' l.enc y → Q y H'
theorem sc_mv : FnScope ["_law_hand_here", "_law_most", "_law_moduli", "_law_kind"] ["_law_hand_here", "_law_most", "_law_moduli"] (defScope (top 35)) := ⟨rfl, rfl, rfl, by decide +kernel, rfl, by decide +kernel, by decide +kernel⟩
theorem ok_mv (D : Dn K mg "_law_move" 35 ["_law_hand_here", "_law_most", "_law_moduli"]) (FD : Ok P w K mg base CX0 2 "_law_draw" ["_law_hand_here", "_law_many"] spDraw)
    (FP : Ok P w K mg base CX0 3 "_law_pick" ["_law_hand_here", "_law_things"] spPick) (FL : Ok P w K mg base CX0 4 "_law_letter" ["_law_hand_here", "_law_most", "_law_moduli"] spLet) (FT : Ok P w K mg base CX0 4 "_law_test" ["_law_hand_here", "_law_moduli"] spTst) : Ok P w K mg base CX0 5 "_law_move" ["_law_hand_here", "_law_most", "_law_moduli"] spMove := by
  refine D.ok sc_mv (fun vs H Q E h => ?_) (fun f cdv A outer s H vs Q E hr h => ?_)
  · obtain ⟨hd, most, ms, v, rfl, _⟩ := h; rfl
  · obtain ⟨hd, most, ms, v, rfl, hH, m0, m1, hms, hv, k⟩ := h
    have hr2 : Room 2 _ := hr.mono (by decide)
    have hr3 : Room 3 _ := hr.mono (by decide)
    refine ⟨_, pss_cons (ps_set (i := 3) sc_mv.nd rfl (Or.inl rfl) (pc FD hr2 pass0 (pa_cons (pv 0) (pa_cons pe_int pa_nil))))
      (pss_cons (ps_if (pt_cmpR op_lt (pv 3) pe_int (nomark _)) (pss_one (ps_ret (pe_tup (pa_cons pe_str (pa_cons (pc FL hr pass0 (pa_cons (pv 0) (pa_cons (pv 1) (pa_cons (pv 2) pa_nil)))) pa_nil))))) pss_nil)
      (pss_cons (ps_if (pt_cmpR op_lt (pv 3) pe_int (nomark _)) (pss_one (ps_ret (pe_tup (pa_cons (pc FP hr3 pass0 (pa_cons (pv 0) (pa_cons (gd_lstE (hd := hd) (S := fun _ => True) (gds_e gd_str (gds_e gd_str gds_nil))) pa_nil))) (pa_cons (pc FT hr pass0 (pa_cons (pv 0) (pa_cons (pv 2) pa_nil))) pa_nil))))) pss_nil)
      (pss_one (ps_ret (pe_tup (pa_cons pe_str pa_nil)))))), ?_⟩
    refine ⟨_, rfl, hd, 8, rfl, hH, by decide, by decide, fun r H1 r0 r1 k1 => ?_⟩
    have fin : ∀ (l : Mv) {H2 : Hp} {xs : List V} {ds : List PyData} {p : Addr}, l.rng → Kh hd H H2 → H2 p = none → l.enc = .tuple ds → DtL (Nh hd) H2 ds xs → Q (.ref p) (upd H2 p (.tup xs)) := fun l {H2 xs ds p} hl k2 np e r =>
      k l _ _ hl (k2.same (same_new np)) (by rw [e]; exact Dt.newT (k2.2.none np) np r)
    refine ⟨_, rfl, _, _, rfl, rfl, _, rfl, itd (fun _ => ?_) (fun _ => ?_)⟩
    · exact ⟨_, rfl, _, rfl, _, rfl, hd, most, ms, v, rfl, k1.2, m0, m1, hms, hv.kp k1.1, fun l y H2 hl k2 hy => ⟨sz_2, fun p np => fin (.deed l) hl (k1.trans k2) np rfl (.cons (.str _) (.cons hy .nil))⟩⟩
    refine ⟨_, rfl, _, _, rfl, rfl, _, rfl, itd (fun _ => ?_) (fun _ => ?_)⟩
    · refine ⟨_, rfl, trivial, k1.2, fun d w H2 hd2 k2 hw => ⟨hd, d, w, [.str "so", .str "not"], rfl, k2.2, hw, congrArg seqOf hd2, by decide, by decide, fun e y H3 he k3 hy => ?_⟩⟩
      have k13 := (k1.trans k2).trans k3
      refine ⟨_, rfl, _, rfl, hd, ms, v, rfl, k3.2, hms, hv.kp k13.1, fun t z H4 ht k4 hz => ⟨sz_2, fun p np => ?_⟩⟩
      have he' : e = .str "so" ∨ e = .str "not" := by simpa using he
      rcases he' with rfl | rfl
      · exact fin (.so t) ht (k13.trans k4) np rfl (.cons (hy.kp k4.1) (.cons hz .nil))
      · exact fin (.nt t) ht (k13.trans k4) np rfl (.cons (hy.kp k4.1) (.cons hz .nil))
    · exact ⟨sz_1, fun p np => fin .stay trivial k1 np rfl (.cons (.str _) .nil)⟩
/-- a shape -/
def encSh (n k : Int) (ms : List Int) : PyData := .tuple [.int n, .int k, .list (ms.map .int)]
def ShapeD (d : PyData) : Prop := ∃ n k ms, d = encSh n k ms ∧ (1 ≤ n ∧ n ≤ 8 ∧ 1 ≤ k ∧ k ≤ 20) ∧ Mods ms
theorem shD (n k : Int) (ms : List Int) (h : 1 ≤ n ∧ n ≤ 8 ∧ 1 ≤ k ∧ k ≤ 20) (hm : (decide (0 < ms.length) && decide (ms.length < 100) && ms.all fun m => decide (1 ≤ m) && decide (m ≤ 6)) = true) (d : PyData) (e : d = encSh n k ms) : ShapeD d := by
  refine ⟨n, k, ms, e, h, ?_⟩
  simp only [Bool.and_eq_true, decide_eq_true_eq, List.all_eq_true] at hm
  exact ⟨hm.1.1, hm.1.2, hm.2⟩
def spShape : Sp := fun vs H Q _ => ∃ (hd : Addr) (b : Bool), vs = [.ref hd, .bl b] ∧ Hand hd H ∧ ∀ n k ms y H', (1 ≤ n ∧ n ≤ 8 ∧ 1 ≤ k ∧ k ≤ 20) → Mods ms → Kh hd H H' → Dt (Nh hd) H' (encSh n k ms) y → Q y H'
theorem sc_shape : FnScope ["_law_hand_here", "_law_wide"] ["_law_hand_here", "_law_wide"] (defScope (top 36)) := ⟨rfl, rfl, rfl, by decide +kernel, rfl, by decide +kernel, by decide +kernel⟩
theorem ok_shape (D : Dn K mg "_law_shape" 36 ["_law_hand_here", "_law_wide"]) (FP : Ok P w K mg base CX0 3 "_law_pick" ["_law_hand_here", "_law_things"] spPick) : Ok P w K mg base CX0 4 "_law_shape" ["_law_hand_here", "_law_wide"] spShape := by
  refine D.ok sc_shape (fun vs H Q E h => ?_) (fun f cdv A outer s H vs Q E hr h => ?_)
  · obtain ⟨hd, b, rfl, _⟩ := h; rfl
  · obtain ⟨hd, b, rfl, hH, k⟩ := h
    refine ⟨_, pss_cons (ps_if (pt_val (pv 1)) (pss_one (ps_ret (pc FP hr pass0 (pa_cons (pv 0) (pa_cons (gd_lst (hd := hd) (S := fun _ => True) (ps := fun l => (∀ d ∈ l, ShapeD d) ∧ l.length = 8) (gds_all (gd_imp (gd_tupE (gds_e gd_int (gds_e gd_int (gds_e (gd_lstE (gds_e gd_int (gds_e gd_int (gds_e gd_int (gds_e gd_int gds_nil))))) gds_nil)))) (shD 1 6 [1, 2, 3, 6] (by decide) (by decide)))
        (gds_all (gd_imp (gd_tupE (gds_e gd_int (gds_e gd_int (gds_e (gd_lstE (gds_e gd_int (gds_e gd_int (gds_e gd_int gds_nil)))) gds_nil)))) (shD 2 4 [1, 2, 4] (by decide) (by decide)))
        (gds_all (gd_imp (gd_tupE (gds_e gd_int (gds_e gd_int (gds_e (gd_lstE (gds_e gd_int (gds_e gd_int gds_nil))) gds_nil)))) (shD 2 3 [1, 3] (by decide) (by decide)))
        (gds_all (gd_imp (gd_tupE (gds_e gd_int (gds_e gd_int (gds_e (gd_lstE (gds_e gd_int (gds_e gd_int gds_nil))) gds_nil)))) (shD 3 2 [1, 2] (by decide) (by decide)))
        (gds_all (gd_imp (gd_tupE (gds_e gd_int (gds_e gd_int (gds_e (gd_lstE (gds_e gd_int (gds_e gd_int gds_nil))) gds_nil)))) (shD 4 2 [1, 2] (by decide) (by decide)))
        (gds_all (gd_imp (gd_tupE (gds_e gd_int (gds_e gd_int (gds_e (gd_lstE (gds_e gd_int gds_nil)) gds_nil)))) (shD 6 1 [1] (by decide) (by decide)))
        (gds_all (gd_imp (gd_tupE (gds_e gd_int (gds_e gd_int (gds_e (gd_lstE (gds_e gd_int gds_nil)) gds_nil)))) (shD 7 1 [1] (by decide) (by decide)))
        (gds_all (gd_imp (gd_tupE (gds_e gd_int (gds_e gd_int (gds_e (gd_lstE (gds_e gd_int gds_nil)) gds_nil)))) (shD 8 1 [1] (by decide) (by decide)))
        gds_all0)))))))) (fun ds h => by rw [h.2]; decide)) pa_nil))))) pss_nil)
      (pss_one (ps_ret (pc FP hr pass0 (pa_cons (pv 0) (pa_cons (gd_lst (hd := hd) (S := fun _ => True) (ps := fun l => (∀ d ∈ l, ShapeD d) ∧ l.length = 8) (gds_all (gd_imp (gd_tupE (gds_e gd_int (gds_e gd_int (gds_e (gd_lstE (gds_e gd_int (gds_e gd_int (gds_e gd_int gds_nil)))) gds_nil)))) (shD 1 4 [1, 2, 4] (by decide) (by decide)))
        (gds_all (gd_imp (gd_tupE (gds_e gd_int (gds_e gd_int (gds_e (gd_lstE (gds_e gd_int (gds_e gd_int gds_nil))) gds_nil)))) (shD 1 3 [1, 3] (by decide) (by decide)))
        (gds_all (gd_imp (gd_tupE (gds_e gd_int (gds_e gd_int (gds_e (gd_lstE (gds_e gd_int (gds_e gd_int gds_nil))) gds_nil)))) (shD 2 2 [1, 2] (by decide) (by decide)))
        (gds_all (gd_imp (gd_tupE (gds_e gd_int (gds_e gd_int (gds_e (gd_lstE (gds_e gd_int gds_nil)) gds_nil)))) (shD 2 2 [2] (by decide) (by decide)))
        (gds_all (gd_imp (gd_tupE (gds_e gd_int (gds_e gd_int (gds_e (gd_lstE (gds_e gd_int gds_nil)) gds_nil)))) (shD 2 1 [1] (by decide) (by decide)))
        (gds_all (gd_imp (gd_tupE (gds_e gd_int (gds_e gd_int (gds_e (gd_lstE (gds_e gd_int gds_nil)) gds_nil)))) (shD 3 1 [1] (by decide) (by decide)))
        (gds_all (gd_imp (gd_tupE (gds_e gd_int (gds_e gd_int (gds_e (gd_lstE (gds_e gd_int gds_nil)) gds_nil)))) (shD 4 1 [1] (by decide) (by decide)))
        (gds_all (gd_imp (gd_tupE (gds_e gd_int (gds_e gd_int (gds_e (gd_lstE (gds_e gd_int gds_nil)) gds_nil)))) (shD 5 1 [1] (by decide) (by decide)))
        gds_all0)))))))) (fun ds h => by rw [h.2]; decide)) pa_nil))))), ?_⟩
    have pick : ∀ d v H1, (∃ ds, d = .list ds ∧ (∀ d ∈ ds, ShapeD d) ∧ ds.length = 8) → Kh hd H H1 → Dt (Nh hd) H1 d v → spPick [.ref hd, v] H1 (fun v H' => Q v H') E0 := fun d v H1 ⟨ds, e, hp, hl⟩ k1 hv => by
      subst e
      refine ⟨hd, _, v, ds, rfl, k1.2, hv, rfl, by omega, by omega, fun e y H2 he k2 hy => ?_⟩
      obtain ⟨n, kk, ms, rfl, h1, h2⟩ := hp e he
      exact k n kk ms y H2 h1 h2 (k1.trans k2) hy
    refine ⟨_, rfl, _, rfl, ?_⟩
    cases b with
    | true => exact iteT ⟨_, rfl, trivial, hH, pick⟩
    | false => exact iteF ⟨_, rfl, trivial, hH, pick⟩
end
end K8
set_option maxRecDepth 100000
set_option maxHeartbeats 1000000
/-! Q2: rings, machines drawn. -/
namespace K8
open PySem PySem.Spec PyProof.Rows L2 L2H

/-- a list under the making -/
def LsAt {α : Type} (enc : α → PyData) (N : Addr → Prop) (a : Addr) (H : Hp) (ls : List α) : Prop := ∃ vs, H a = some (.lst vs) ∧ DtL (Nx N a) H (ls.map enc) vs
section
variable {α : Type} {enc : α → PyData} {N : Addr → Prop} {a : Addr} {H H' : Hp} {ls : List α}
theorem LsAt.kp (h : LsAt enc N a H ls) (na : N a) (k : Kp N H H') : LsAt enc N a H' ls := by
  obtain ⟨vs, h1, h2⟩ := h
  exact ⟨vs, k _ _ na h1, h2.kp fun b o n e => k b o n.1 e⟩
theorem LsAt.dt (h : LsAt enc N a H ls) (na : N a) : Dt N H (.list (ls.map enc)) (.ref a) := by
  obtain ⟨vs, h1, h2⟩ := h
  exact .lst na h1 (h2.sub Nx.sub)
theorem LsAt.push (h : LsAt enc N a H ls) {x : α} {y : V} {vs : List V} (hv : H a = some (.lst vs)) (hy : Dt (Nx N a) H (enc x) y) : LsAt enc N a (upd H a (.lst (vs ++ [y]))) (ls ++ [x]) := by
  obtain ⟨vs', h1, h2⟩ := h
  rw [hv] at h1; cases h1
  refine ⟨_, upd_same, ?_⟩
  rw [List.map_append]
  exact DtL.app (h2.kp .putx) (.one (hy.kp .putx))
theorem LsAt.len (h : LsAt enc N a H ls) {vs : List V} (hv : H a = some (.lst vs)) : vs.length = ls.length := by
  obtain ⟨vs', h1, h2⟩ := h
  rw [hv] at h1; cases h1
  have := h2.len
  rw [List.length_map] at this
  exact this.symm
end
/-- no list within -/
def noL : PyData → Bool
  | .tuple ds => ds.all fun d => match d with
    | .tuple es => es.all fun e => match e with
      | .tuple gs => gs.all fun g => match g with | .int _ => true | .str _ => true | _ => false
      | .int _ => true | .str _ => true | _ => false
    | .int _ => true | .str _ => true | _ => false
  | _ => false
mutual
inductive Tu : PyData → Prop
  | int (i : Int) : Tu (.int i)
  | str (x : Str) : Tu (.str x)
  | tup {ds : List PyData} (h : TuL ds) : Tu (.tuple ds)
inductive TuL : List PyData → Prop
  | nil : TuL []
  | cons {d : PyData} {ds : List PyData} (h : Tu d) (r : TuL ds) : TuL (d :: ds)
end
mutual
theorem Dt.offL {N : Addr → Prop} {H : Hp} {a : Addr} {xs : List V} (ha : H a = some (.lst xs)) : ∀ {d : PyData} {v : V}, Dt N H d v → Tu d → Dt (Nx N a) H d v
  | _, _, .int i, _ => .int i
  | _, _, .str x, _ => .str x
  | _, _, .tup n h r, .tup t => .tup ⟨n, fun z => by rw [z, ha] at h; cases h⟩ h (DtL.offL ha r t)
  | _, _, .non, t => nomatch t
  | _, _, .bl _, t => nomatch t
  | _, _, .lst _ _ _, t => nomatch t
theorem DtL.offL {N : Addr → Prop} {H : Hp} {a : Addr} {xs : List V} (ha : H a = some (.lst xs)) : ∀ {ds : List PyData} {vs : List V}, DtL N H ds vs → TuL ds → DtL (Nx N a) H ds vs
  | _, _, .nil, _ => .nil
  | _, _, .cons h r, .cons t u => .cons (Dt.offL ha h t) (DtL.offL ha r u)
end
theorem tu_lt : ∀ l : Lt, Tu l.enc
  | .set _ => .tup (.cons (.str _) (.cons (.int _) .nil))
  | .add _ => .tup (.cons (.str _) (.cons (.int _) .nil))
  | .turn => .tup (.cons (.str _) .nil)
  | .mod _ => .tup (.cons (.str _) (.cons (.int _) .nil))
theorem tu_ts : ∀ l : Ts, Tu l.enc
  | .below _ => .tup (.cons (.str _) (.cons (.int _) .nil))
  | .is _ => .tup (.cons (.str _) (.cons (.int _) .nil))
  | .rest _ _ => .tup (.cons (.str _) (.cons (.int _) (.cons (.int _) .nil)))
theorem tu_mv : ∀ m : Mv, Tu m.enc
  | .stay => .tup (.cons (.str _) .nil)
  | .deed l => .tup (.cons (.str _) (.cons (tu_lt l) .nil))
  | .so l => .tup (.cons (.str _) (.cons (tu_ts l) .nil))
  | .nt l => .tup (.cons (.str _) (.cons (tu_ts l) .nil))
theorem tu_ar (a : Ar) : Tu (encAr a) := .tup (.cons (.int _) (.cons (tu_mv _) (.cons (.int _) .nil)))
theorem tu_st (a : Int × Int) : Tu (encSt a) := .tup (.cons (.int _) (.cons (.int _) .nil))
theorem tu_map {α : Type} {f : α → PyData} (h : ∀ a, Tu (f a)) : ∀ ls : List α, TuL (ls.map f)
  | [] => .nil
  | a :: r => .cons (h a) (tu_map h r)

/-- arrows of a machine of n stations -/
def ArsOk (n : Int) (as : List Ar) : Prop := ∀ x ∈ as, x.2.1.rng ∧ (0 ≤ x.1 ∧ x.1 < n) ∧ 0 ≤ x.2.2 ∧ x.2.2 < n
theorem ArsOk.push {n : Int} {as : List Ar} {x : Ar} (h : ArsOk n as) (hx : x.2.1.rng ∧ (0 ≤ x.1 ∧ x.1 < n) ∧ 0 ≤ x.2.2 ∧ x.2.2 < n) : ArsOk n (as ++ [x]) := fun y hy => by
  rcases List.mem_append.mp hy with e | e
  · exact h y e
  · rw [List.mem_singleton.mp e]; exact hx
theorem ArsOk.nil {n : Int} : ArsOk n [] := fun _ h => by cases h
section
variable {P : Program} {w : World} {K : PySem.W.Frag} {mg : Str → Option Value} {base : Heap}
def spRings : Sp := fun vs H Q _ => ∃ (hd : Addr) (n k cut : Int) (ms : List Int) (v : V), vs = [.ref hd, v, .int cut] ∧ Hand hd H ∧ (1 ≤ n ∧ n ≤ 8 ∧ 1 ≤ k ∧ k ≤ 20) ∧ Mods ms ∧ Dt (Nh hd) H (encSh n k ms) v ∧ 1 ≤ cut ∧ cut ≤ n ∧
  ∀ a as H', H a = none → Kh hd H H' → LsAt encAr (Nh hd) a H' as → ArsOk n as → 1 ≤ as.length → as.length ≤ 10 → Q (.ref a) H'
theorem sc_rings : FnScope ["_law_hand_here", "_law_shape_here", "_law_cut", "_law_arrows", "_law_side", "_law_other", "_law_station", "_law_step", "_law_low", "_law_end", "_law_there"] ["_law_hand_here", "_law_shape_here", "_law_cut"] (defScope (top 37)) := ⟨rfl, rfl, rfl, by decide +kernel, rfl, by decide +kernel, by decide +kernel⟩
theorem ok_rings (B : Bn mg) (D : Dn K mg "_law_rings" 37 ["_law_hand_here", "_law_shape_here", "_law_cut"]) (FD : Ok P w K mg base CX0 2 "_law_draw" ["_law_hand_here", "_law_many"] spDraw)
    (FP : Ok P w K mg base CX0 3 "_law_pick" ["_law_hand_here", "_law_things"] spPick) (FM : Ok P w K mg base CX0 5 "_law_move" ["_law_hand_here", "_law_most", "_law_moduli"] spMove) : Ok P w K mg base CX0 6 "_law_rings" ["_law_hand_here", "_law_shape_here", "_law_cut"] spRings := by
  refine D.ok sc_rings (fun vs H Q E h => ?_) (fun f cdv A outer s H vs Q E hr h => ?_)
  · obtain ⟨hd, n, k, cut, ms, v, rfl, _⟩ := h; rfl
  · obtain ⟨hd, n, k, cut, ms, v, rfl, hH, ⟨n1, n8, k1, k20⟩, hms, hv, c1, cn, kq⟩ := h
    have hr2 : Room 2 _ := hr.mono (by decide)
    have hr3 : Room 3 _ := hr.mono (by decide)
    have hr5 : Room 5 _ := hr
    refine ⟨_, pss_cons (ps_set (i := 3) sc_rings.nd rfl (Or.inl rfl) (pe_lst pa_nil))
      (pss_cons (ps_set (i := 4) sc_rings.nd rfl (Or.inl rfl) (pc FP hr3 pass0 (pa_cons (pv 0) (pa_cons (gd_lstE (hd := hd) (S := fun _ => True) (gds_e gd_int (gds_e gd_int (gds_e gd_neg gds_nil)))) pa_nil))))
      (pss_cons (ps_set (i := 5) sc_rings.nd rfl (Or.inl rfl) (pc FP hr3 pass0 (pa_cons (pv 0) (pa_cons (gd_lstE (hd := hd) (S := fun _ => True) (gds_e gd_int (gds_e gd_neg gds_nil))) pa_nil))))
      (pss_cons (ps_for PassesOwn.never rfl (pi_range1 (by rfl) B.range (pa_cons (pe_ix ix_dt (pv 1) pe_int (fun _ _ => rfl)) pa_nil)) (pg_name (i := 6) sc_rings.nd rfl (Or.inl rfl))
        (pss_cons (ps_set (i := 7) sc_rings.nd rfl (Or.inl rfl) (pc FP hr3 pass0 (pa_cons (pv 0) (pa_cons (pe_lst (pa_cons (pe_ix ix_dt (pv 1) pe_int (fun _ _ => rfl)) (pa_cons (pc FD hr2 pass0 (pa_cons (pv 0) (pa_cons (pe_op op_add (pe_ix ix_dt (pv 1) pe_int (fun _ _ => rfl)) pe_int) pa_nil))) pa_nil))) pa_nil))))
        (pss_cons (ps_set (i := 8) sc_rings.nd rfl (Or.inl rfl) (pe_ifExp (pt_cmpR op_lt (pv 6) (pv 2) (nomark _)) pe_int (pv 2)))
        (pss_cons (ps_set (i := 9) sc_rings.nd rfl (Or.inl rfl) (pe_ifExp (pt_cmpR op_lt (pv 6) (pv 2) (nomark _)) (pv 2) (pe_ix ix_dt (pv 1) pe_int (fun _ _ => rfl))))
        (pss_cons (ps_set (i := 10) sc_rings.nd rfl (Or.inl rfl) (pe_ifExp (pt_cmpR op_lt (pe_op op_add (pv 6) pe_int) (pv 9) (nomark _)) (pe_op op_add (pv 6) pe_int) (pv 8)))
        (pss_one (ps_expr (pe_bm PySem.F.plainAttrs_list PySem.F.slot_list_append PySem.F.type_list_append mt_append (pv 3) (pa_cons (pe_tup (pa_cons (pv 6) (pa_cons (pe_tup (pa_cons pe_str (pa_cons (pe_tup (pa_cons pe_str (pa_cons
            (pe_ifExp (pt_cmpR op_lt (pv 6) (pv 2) (nomark _)) (pe_op op_mul (pv 4) (pv 7)) (pe_op op_mul (pv 5) (pv 7))) pa_nil))) pa_nil))) (pa_cons (pv 10) pa_nil)))) pa_nil)))))))))
      (pss_cons (ps_if (pt_cmpR op_lt (pv 2) (pe_ix ix_dt (pv 1) pe_int (fun _ _ => rfl)) (nomark _))
        (pss_cons (ps_expr (pe_bm PySem.F.plainAttrs_list PySem.F.slot_list_append PySem.F.type_list_append mt_append (pv 3) (pa_cons (pe_tup (pa_cons (pc FD hr2 pass0 (pa_cons (pv 0) (pa_cons (pv 2) pa_nil)))
            (pa_cons (pc FM hr5 pass0 (pa_cons (pv 0) (pa_cons pe_int (pa_cons (pe_ix ix_dt (pv 1) pe_int (fun _ _ => rfl)) pa_nil)))) (pa_cons (pe_op op_add (pv 2) (pc FD hr2 pass0 (pa_cons (pv 0) (pa_cons (pe_op op_sub (pe_ix ix_dt (pv 1) pe_int (fun _ _ => rfl)) (pv 2)) pa_nil)))) pa_nil)))) pa_nil)))
        (pss_one (ps_expr (pe_bm PySem.F.plainAttrs_list PySem.F.slot_list_append PySem.F.type_list_append mt_append (pv 3) (pa_cons (pe_tup (pa_cons (pc FD hr2 pass0 (pa_cons (pv 0) (pa_cons (pv 2) pa_nil)))
            (pa_cons (pe_tup (pa_cons pe_str pa_nil)) (pa_cons (pe_op op_add (pv 2) (pc FD hr2 pass0 (pa_cons (pv 0) (pa_cons (pe_op op_sub (pe_ix ix_dt (pv 1) pe_int (fun _ _ => rfl)) (pv 2)) pa_nil)))) pa_nil)))) pa_nil))))) pss_nil)
      (pss_one (ps_ret (pv 3))))))), ?_⟩
    refine ⟨Nat.zero_le _, fun a na => ?_⟩
    have nah : Nh hd a := hH.fn a na
    have k0 : Kh hd H (upd H a (.lst [])) := hH.refl.put hH na
    have l0 : LsAt encAr (Nh hd) a (upd H a (.lst [])) [] := ⟨[], upd_same, .nil⟩
    have szb : 100 ≤ sizeLine := szl_100 (Nat.le_refl _)
    -- side, other
    refine ⟨_, rfl, trivial, k0.2, fun d u H1 hd1 kk1 hu => ⟨hd, d, u, [.int 1, .int 1, .int (-1)], rfl, kk1.2, hu, congrArg seqOf hd1, by decide, by decide, fun e y H2 he kk2 hy => ?_⟩⟩
    obtain ⟨sd, rfl, sd1, sd2⟩ : ∃ sd : Int, e = .int sd ∧ -1 ≤ sd ∧ sd ≤ 1 := by
      have he' : e = .int 1 ∨ e = .int (-1) := by simpa using he
      rcases he' with rfl | rfl
      · exact ⟨1, rfl, by decide, by decide⟩
      · exact ⟨-1, rfl, by decide, by decide⟩
    cases hy
    refine ⟨_, rfl, trivial, kk2.2, fun d u H3 hd3 kk3 hu => ⟨hd, d, u, [.int 1, .int (-1)], rfl, kk3.2, hu, congrArg seqOf hd3, by decide, by decide, fun e y H4 he kk4 hy => ?_⟩⟩
    obtain ⟨ot, rfl, ot1, ot2⟩ : ∃ ot : Int, e = .int ot ∧ -1 ≤ ot ∧ ot ≤ 1 := by
      have he' : e = .int 1 ∨ e = .int (-1) := by simpa using he
      rcases he' with rfl | rfl
      · exact ⟨1, rfl, by decide, by decide⟩
      · exact ⟨-1, rfl, by decide, by decide⟩
    cases hy
    have kA := ((kk1.trans kk2).trans kk3).trans kk4
    have k4 := k0.trans kA
    have l4 := l0.kp nah kA.1
    have hv4 := hv.kp k4.1
    refine ⟨_, rfl, _, _, _, 0, _, hv4, rfl, rfl, rfl, fun w hw => ?_⟩
    cases hw
    refine ⟨n, rfl, by omega, by omega, for_range (fun i σ H' => ∃ x6 x7 x8 x9 x10 as, σ = [some (.ref hd), some v, some (.int cut), some (.ref a), some (.int sd), some (.int ot), x6, x7, x8, x9, x10] ∧ Kh hd H H' ∧ LsAt encAr (Nh hd) a H' as ∧ ArsOk n as ∧ as.length = i)
      ⟨none, none, none, none, none, [], rfl, k4, l4, .nil, rfl⟩ (fun i σ H5 hi p => ?_) (fun σ H5 p => ?_)⟩
    · obtain ⟨x6, x7, x8, x9, x10, as, rfl, k5, l5, hok, hlen⟩ := p
      have hv5 := hv.kp k5.1
      have hz0 : (0 : Int) ≤ 0 + (i : Nat) ∧ (0 : Int) + (i : Nat) < n := by omega
      show tSeq _ _ _ [some (.ref hd), some v, some (.int cut), some (.ref a), some (.int sd), some (.int ot), some (.int (0 + (i : Nat))), x7, x8, x9, x10] H5
      generalize (0 : Int) + (i : Nat) = z at hz0
      -- step
      refine seq_of (fun σ' H' => ∃ st : Int, (0 ≤ st ∧ st ≤ 20) ∧ Kh hd H H' ∧ LsAt encAr (Nh hd) a H' as ∧ σ' = [some (.ref hd), some v, some (.int cut), some (.ref a), some (.int sd), some (.int ot), some (.int z), some (.int st), x8, x9, x10]) (fun σ' H7 p => ?_) (fun nx hn => ?_)
      rotate_left
      · refine ⟨_, rfl, _, rfl, _, _, _, 1, _, hv5, rfl, rfl, rfl, fun w hw => ?_⟩
        cases hw
        refine ⟨_, rfl, _, rfl, _, _, _, 1, _, hv5, rfl, rfl, rfl, fun w hw => ?_⟩
        cases hw
        refine ⟨_, _, rfl, rfl, hd, k + 1, rfl, k5.2, by omega, by omega, fun q H6 q0 q1 k6 => ⟨sz_2, fun p np => ?_⟩⟩
        have k6' := k6.same (same_new (o := .lst [.int k, .int q]) np)
        refine ⟨hd, .list [.int k, .int q], .ref p, [.int k, .int q], rfl, k6'.2, Dt.newL (k6.2.none np) np (.cons (.int _) (.cons (.int _) .nil)), rfl, (by show 0 < 2; decide), (by show 2 < 2 ^ 60; decide), fun e y H7 he kk7 hy => ?_⟩
        obtain ⟨st, rfl, st0, st1⟩ : ∃ st : Int, e = .int st ∧ 0 ≤ st ∧ st ≤ 20 := by
          have he' : e = .int k ∨ e = .int q := by simpa using he
          rcases he' with rfl | rfl
          · exact ⟨k, rfl, by omega, by omega⟩
          · exact ⟨q, rfl, q0, by omega⟩
        cases hy
        have k57 := k6'.trans kk7
        exact hn _ _ ⟨st, ⟨st0, st1⟩, k5.trans k57, l5.kp nah k57.1, rfl⟩
      obtain ⟨st, ⟨st0, st1⟩, k7, l7, rfl⟩ := p
      have hv7 := hv.kp k7.1
      -- low
      refine seq_of (fun σ' H' => H' = H7 ∧ σ' = [some (.ref hd), some v, some (.int cut), some (.ref a), some (.int sd), some (.int ot), some (.int z), some (.int st), some (.int (if z < cut then 0 else cut)), x9, x10]) (fun σ' H' p => ?_) (fun nx hn => ?_)
      rotate_left
      · refine ⟨_, rfl, _, rfl, _, _, rfl, rfl, _, rfl, ?_⟩
        refine itd (fun c => ?_) (fun c => ?_)
        · exact hn _ _ ⟨rfl, by rw [if_pos (show z < cut from c)]; rfl⟩
        · exact ⟨_, rfl, hn _ _ ⟨rfl, by rw [if_neg (show ¬ z < cut from c)]; rfl⟩⟩
      obtain ⟨rfl, rfl⟩ := p
      -- end
      refine seq_of (fun σ' H'' => H'' = H' ∧ σ' = [some (.ref hd), some v, some (.int cut), some (.ref a), some (.int sd), some (.int ot), some (.int z), some (.int st), some (.int (if z < cut then 0 else cut)), some (.int (if z < cut then cut else n)), x10]) (fun σ' H'' p => ?_) (fun nx hn => ?_)
      rotate_left
      · refine ⟨_, rfl, _, rfl, _, _, rfl, rfl, _, rfl, ?_⟩
        refine itd (fun c => ?_) (fun c => ?_)
        · exact ⟨_, rfl, hn _ _ ⟨rfl, by rw [if_pos (show z < cut from c), if_pos (show z < cut from c)]; rfl⟩⟩
        · refine ⟨_, rfl, _, _, _, 0, _, hv7, rfl, rfl, rfl, fun w hw => ?_⟩
          cases hw
          refine hn _ _ ⟨rfl, ?_⟩
          rw [if_neg (show ¬ z < cut from c), if_neg (show ¬ z < cut from c)]; rfl
      obtain ⟨rfl, rfl⟩ := p
      -- there
      refine seq_of (fun σ' H' => H' = H'' ∧ ∃ th : Int, (0 ≤ th ∧ th < n) ∧ σ' = [some (.ref hd), some v, some (.int cut), some (.ref a), some (.int sd), some (.int ot), some (.int z), some (.int st), some (.int (if z < cut then 0 else cut)), some (.int (if z < cut then cut else n)), some (.int th)]) (fun σ' H' p => ?_) (fun nx hn => ?_)
      rotate_left
      · refine ⟨_, rfl, _, _, rfl, rfl, _, rfl, _, _, rfl, rfl, _, rfl, ?_⟩
        refine itd (fun c => ?_) (fun c => ?_)
        · refine ⟨_, rfl, _, _, rfl, rfl, hn _ _ ⟨rfl, _, ?_, rfl⟩⟩
          have c' : z + 1 < (if z < cut then cut else n) := c
          by_cases h : z < cut
          · rw [if_pos h] at c'; exact ⟨by omega, by omega⟩
          · rw [if_neg h] at c'; exact ⟨by omega, by omega⟩
        · refine ⟨_, rfl, hn _ _ ⟨rfl, _, ?_, rfl⟩⟩
          have c' : ¬ z + 1 < (if z < cut then cut else n) := c
          by_cases h : z < cut
          · rw [if_pos h]; exact ⟨by omega, by omega⟩
          · rw [if_neg h] at c' ⊢; exact ⟨by omega, by omega⟩
      obtain ⟨rfl, th, hth, rfl⟩ := p
      -- append
      obtain ⟨vs, hvs, _⟩ := id l7
      have hl := l7.len hvs
      have fin : ∀ z2 : Int, -20 ≤ z2 → z2 ≤ 20 → ∀ q1, H' q1 = none → ∀ q2, (upd H' q1 (.tup [.str "add", .int z2])) q2 = none → ∀ q3, (upd (upd H' q1 (.tup [.str "add", .int z2])) q2 (.tup [.str "deed", .ref q1])) q3 = none →
          rAppend (.ref a) [.ref q3] (upd (upd (upd H' q1 (.tup [.str "add", .int z2])) q2 (.tup [.str "deed", .ref q1])) q3 (.tup [.int z, .ref q2, .int th])) fun _ H9 => ∃ x6 x7 x8 x9 x10 as, [some (V.ref hd), some v, some (.int cut), some (.ref a), some (.int sd), some (.int ot), some (.int z), some (.int st), some (.int (if z < cut then 0 else cut)), some (.int (if z < cut then cut else n)), some (.int th)] =
            [some (.ref hd), some v, some (.int cut), some (.ref a), some (.int sd), some (.int ot), x6, x7, x8, x9, x10] ∧ Kh hd H H9 ∧ LsAt encAr (Nh hd) a H9 as ∧ ArsOk n as ∧ as.length = i + 1 := fun z2 b1 b2 q1 nq1 q2 nq2 q3 nq3 => by
        have s1 := same_new (o := .tup [.str "add", .int z2]) nq1
        have s2 := same_up (o := .tup [.str "deed", .ref q1]) s1 nq2
        have s3 := same_up (o := .tup [.int z, .ref q2, .int th]) s2 nq3
        have k8 := k7.same s3
        have l8 := l7.kp nah (.same s3)
        have ha3 := s3 _ _ hvs
        refine ⟨a, vs, .ref q3, rfl, rfl, ha3, by omega, some (.int z), _, _, _, _, as ++ [((z, .deed (.add z2), th) : Ar)], rfl, k8.put hH na, l8.push ha3 ?_, hok.push ⟨⟨b1, b2⟩, hz0, hth⟩, by rw [List.length_append, hlen]; rfl⟩
        have t1 : Dt (Nx (Nh hd) a) (upd H' q1 (.tup [.str "add", .int z2])) (.tuple [.str "add", .int z2]) (.ref q1) := Dt.newT ⟨k7.2.none nq1, Ne.symm (ne_of_none hvs nq1)⟩ nq1 (.cons (.str _) (.cons (.int _) .nil))
        have t2 : Dt (Nx (Nh hd) a) (upd (upd H' q1 (.tup [.str "add", .int z2])) q2 (.tup [.str "deed", .ref q1])) (.tuple [.str "deed", .tuple [.str "add", .int z2]]) (.ref q2) :=
          Dt.newT ⟨k7.2.none (s1.free nq2), Ne.symm (ne_of_none hvs (s1.free nq2))⟩ nq2 (.cons (.str _) (.cons t1 .nil))
        exact Dt.newT ⟨k7.2.none (s2.free nq3), Ne.symm (ne_of_none hvs (s2.free nq3))⟩ nq3 (.cons (.int _) (.cons t2 (.cons (.int _) .nil)))
      have bnd : ∀ x : Int, -1 ≤ x → x ≤ 1 → -20 ≤ x * st ∧ x * st ≤ 20 := fun x h1 h2 => by
        have : x = -1 ∨ x = 0 ∨ x = 1 := by omega
        rcases this with h | h | h <;> subst h <;> constructor <;> omega
      refine ⟨_, rfl, .inl ⟨rfl, vs, SqL.of hvs⟩, _, rfl, _, rfl, _, rfl, _, _, rfl, rfl, _, rfl, ?_⟩
      refine itd (fun c => ?_) (fun c => ?_)
      · exact ⟨_, rfl, _, rfl, _, _, rfl, rfl, .inl ⟨by omega, by omega⟩, sz_2, fun q1 nq1 => ⟨sz_2, fun q2 nq2 => ⟨_, rfl, sz_3, fun q3 nq3 => fin _ (bnd sd sd1 sd2).1 (bnd sd sd1 sd2).2 q1 nq1 q2 nq2 q3 nq3⟩⟩⟩
      · exact ⟨_, rfl, _, rfl, _, _, rfl, rfl, .inl ⟨by omega, by omega⟩, sz_2, fun q1 nq1 => ⟨sz_2, fun q2 nq2 => ⟨_, rfl, sz_3, fun q3 nq3 => fin _ (bnd ot ot1 ot2).1 (bnd ot ot1 ot2).2 q1 nq1 q2 nq2 q3 nq3⟩⟩⟩
    · obtain ⟨x6, x7, x8, x9, x10, as, rfl, k5, l5, hok, hlen⟩ := p
      have hv5 := hv.kp k5.1
      refine ⟨_, rfl, _, rfl, _, _, _, 0, _, hv5, rfl, rfl, rfl, fun w hw => ?_⟩
      cases hw
      refine ⟨_, _, rfl, rfl, _, rfl, ?_⟩
      refine itd (fun c => ?_) (fun c => ⟨_, rfl, kq a as H5 na k5 l5 hok (by omega) (by omega)⟩)
      have c' : cut < n := c
      obtain ⟨vs, hvs, _⟩ := id l5
      have hl := l5.len hvs
      refine ⟨_, rfl, .inl ⟨rfl, vs, SqL.of hvs⟩, _, rfl, _, rfl, hd, cut, rfl, k5.2, by omega, by omega, fun r1 H6 r10 r11 k6 => ?_⟩
      refine ⟨_, rfl, _, rfl, _, _, _, 2, _, hv5.kp k6.1, rfl, rfl, rfl, fun w hw => ?_⟩
      refine ⟨hd, 1, ms, w, rfl, k6.2, by decide, by decide, hms, hw, fun m y H7 hm k7 hy => ?_⟩
      refine ⟨_, rfl, _, rfl, _, rfl, _, _, _, 0, _, (hv5.kp k6.1).kp k7.1, rfl, rfl, rfl, fun w hw => ?_⟩
      cases hw
      refine ⟨_, rfl, _, _, rfl, rfl, hd, n - cut, rfl, k7.2, by omega, by omega, fun r2 H8 r20 r21 k8 => ⟨_, _, rfl, rfl, sz_3, fun q nq => ?_⟩⟩
      have kk := (k6.trans k7).trans k8
      have l8 := l5.kp nah kk.1
      have hv8 := kk.1 _ _ nah hvs
      have k58 := k5.trans kk
      have s1 := same_new (o := .tup [.int r1, y, .int (cut + r2)]) nq
      have hv9 := s1 _ _ hv8
      refine ⟨a, vs, .ref q, rfl, rfl, hv9, by omega, ?_⟩
      have dy : Dt (Nx (Nh hd) a) H8 m.enc y := Dt.offL hv8 (hy.kp k8.1) (tu_mv m)
      have l9 : LsAt encAr (Nh hd) a (upd (upd H8 q (.tup [.int r1, y, .int (cut + r2)])) a (.lst (vs ++ [.ref q]))) (as ++ [((r1, m, cut + r2) : Ar)]) :=
        (l8.kp nah (.same s1)).push hv9 (Dt.newT ⟨k8.2.none nq, Ne.symm (ne_of_none hv8 nq)⟩ nq (.cons (.int _) (.cons dy (.cons (.int _) .nil))))
      have k9 : Kh hd H (upd (upd H8 q (.tup [.int r1, y, .int (cut + r2)])) a (.lst (vs ++ [.ref q]))) := (k58.same s1).put hH na
      have ok9 : ArsOk n (as ++ [((r1, m, cut + r2) : Ar)]) := hok.push ⟨hm, ⟨r10, by show r1 < n; omega⟩, by show 0 ≤ cut + r2; omega, by show cut + r2 < n; omega⟩
      have ln9 : (as ++ [((r1, m, cut + r2) : Ar)]).length = n.toNat + 1 := by rw [List.length_append, hlen]; rfl
      have hva : (upd (upd H8 q (.tup [.int r1, y, .int (cut + r2)])) a (.lst (vs ++ [.ref q]))) a = some (.lst (vs ++ [.ref q])) := upd_same
      generalize upd (upd H8 q (.tup [.int r1, y, .int (cut + r2)])) a (.lst (vs ++ [.ref q])) = H9 at l9 k9 hva
      generalize as ++ [((r1, m, cut + r2) : Ar)] = as9 at l9 ok9 ln9
      generalize vs ++ [V.ref q] = vs9 at hva
      have hl9 := l9.len hva
      -- the second
      refine ⟨_, rfl, .inl ⟨rfl, vs9, SqL.of hva⟩, _, rfl, _, rfl, hd, cut, rfl, k9.2, by omega, by omega, fun r1 H6 r10 r11 k6 => ?_⟩
      refine ⟨sz_1, fun q nq => ?_⟩
      have s2 := same_new (o := .tup [.str "stay"]) nq
      have k6' := k6.same s2
      refine ⟨_, rfl, _, rfl, _, rfl, _, _, _, 0, _, (hv.kp k9.1).kp k6'.1, rfl, rfl, rfl, fun w hw => ?_⟩
      cases hw
      refine ⟨_, rfl, _, _, rfl, rfl, hd, n - cut, rfl, k6'.2, by omega, by omega, fun r2 H8 r20 r21 k8 => ⟨_, _, rfl, rfl, sz_3, fun q3 nq3 => ?_⟩⟩
      have kk := k6'.trans k8
      have l8 := l9.kp nah kk.1
      have hv8 := kk.1 _ _ nah hva
      have k58 := k9.trans kk
      have s3 := same_new (o := .tup [.int r1, .ref q, .int (cut + r2)]) nq3
      have hv9 := s3 _ _ hv8
      refine ⟨a, vs9, .ref q3, rfl, rfl, hv9, by omega, ?_⟩
      have dq : Dt (Nh hd) (upd H6 q (.tup [.str "stay"])) Mv.stay.enc (.ref q) := Dt.newT (k6.2.none nq) nq (.cons (.str _) .nil)
      have dy : Dt (Nx (Nh hd) a) H8 Mv.stay.enc (.ref q) := Dt.offL hv8 (dq.kp k8.1) (tu_mv .stay)
      refine ⟨_, rfl, kq a (as9 ++ [((r1, .stay, cut + r2) : Ar)]) _ na ((k58.same s3).put hH na) ((l8.kp nah (.same s3)).push hv9 (Dt.newT ⟨k8.2.none nq3, Ne.symm (ne_of_none hv8 nq3)⟩ nq3 (.cons (.int _) (.cons dy (.cons (.int _) .nil))))) (ok9.push ⟨trivial, ⟨r10, by show r1 < n; omega⟩, by show 0 ≤ cut + r2; omega, by show cut + r2 < n; omega⟩) ?_ ?_⟩
      · rw [List.length_append]; omega
      · rw [List.length_append, ln9]; show n.toNat + 1 + 1 ≤ 10; omega
end
end K8
set_option maxRecDepth 100000
set_option maxHeartbeats 1000000
/-! Q3: machines drawn. -/
namespace K8
open PySem PySem.Spec PyProof.Rows L2 L2H

def encB (n : Int) (ss : List (Int × Int)) (as : List Ar) : PyData := .list [.int n, .list (ss.map encSt), .list (as.map encAr)]
structure BaseOk (n : Int) (ss : List (Int × Int)) (as : List Ar) : Prop where
  n1 : 1 ≤ n
  n8 : n ≤ 8
  st : ∀ p ∈ ss, (0 ≤ p.1 ∧ p.1 < n) ∧ -20 ≤ p.2 ∧ p.2 ≤ 20
  sl : ss.length ≤ 3
  ar : ArsOk n as
  al : as.length ≤ 20
  ap : 1 ≤ as.length
section
variable {P : Program} {w : World} {K : PySem.W.Frag} {mg : Str → Option Value} {base : Heap}
def spMach : Sp := fun vs H Q _ => ∃ (hd : Addr) (n k : Int) (ms : List Int) (v : V), vs = [.ref hd, v, .int 8] ∧ Hand hd H ∧ (1 ≤ n ∧ n ≤ 8 ∧ 1 ≤ k ∧ k ≤ 20) ∧ Mods ms ∧ Dt (Nh hd) H (encSh n k ms) v ∧
  ∀ n ss as y H', BaseOk n ss as → Kh hd H H' → Dt (Nh hd) H' (encB n ss as) y → Q y H'
theorem sc_mach : FnScope ["_law_hand_here", "_law_shape_here", "_law_many", "_law_kind", "_law_arrows", "_law_more", "_law_turn", "_law_come", "_law_go", "_law_starts"] ["_law_hand_here", "_law_shape_here", "_law_many"] (defScope (top 38)) := ⟨rfl, rfl, rfl, by decide +kernel, rfl, by decide +kernel, by decide +kernel⟩
theorem ok_mach (B : Bn mg) (D : Dn K mg "_law_machine" 38 ["_law_hand_here", "_law_shape_here", "_law_many"]) (FD : Ok P w K mg base CX0 2 "_law_draw" ["_law_hand_here", "_law_many"] spDraw)
    (FP : Ok P w K mg base CX0 3 "_law_pick" ["_law_hand_here", "_law_things"] spPick) (FM : Ok P w K mg base CX0 5 "_law_move" ["_law_hand_here", "_law_most", "_law_moduli"] spMove) (FR : Ok P w K mg base CX0 6 "_law_rings" ["_law_hand_here", "_law_shape_here", "_law_cut"] spRings)
    (FV : Ok P w K mg base CX0 3 "_law_value" ["_law_hand_here"] spVal) : Ok P w K mg base CX0 7 "_law_machine" ["_law_hand_here", "_law_shape_here", "_law_many"] spMach := by
  refine D.ok sc_mach (fun vs H Q E h => ?_) (fun f cdv A outer s H vs Q E hr h => ?_)
  · obtain ⟨hd, n, k, ms, v, rfl, _⟩ := h; rfl
  · obtain ⟨hd, n, k, ms, v, rfl, hH, ⟨n1, n8, k1, k20⟩, hms, hv, kq⟩ := h
    have hr2 : Room 2 _ := hr.mono (by decide)
    have hr3 : Room 3 _ := hr.mono (by decide)
    have hr5 : Room 5 _ := hr.mono (by decide)
    refine ⟨_, pss_cons (ps_set (i := 3) sc_mach.nd rfl (Or.inl rfl) (pc FD hr2 pass0 (pa_cons (pv 0) (pa_cons pe_int pa_nil))))
      (pss_cons (ps_set (i := 4) sc_mach.nd rfl (Or.inl rfl) (pe_lst pa_nil))
      (pss_cons (ps_set (i := 5) sc_mach.nd rfl (Or.inl rfl) (pe_op op_add pe_int (pc FD hr2 pass0 (pa_cons (pv 0) (pa_cons (pv 2) pa_nil)))))
      (pss_cons (ps_if (pt_cmpR op_gt (pv 3) pe_int (nomark _))
        (pss_cons (ps_set (i := 4) sc_mach.nd rfl (Or.inl rfl) (pc FR hr pass0 (pa_cons (pv 0) (pa_cons (pv 1) (pa_cons (pe_ifExp (pt_cmpR op_lt (pv 3) pe_int (nomark _)) (pe_ix ix_dt (pv 1) pe_int (fun _ _ => rfl)) (pe_op op_add pe_int (pc FD hr2 pass0 (pa_cons (pv 0) (pa_cons (pe_ix ix_dt (pv 1) pe_int (fun _ _ => rfl)) pa_nil))))) pa_nil)))))
        (pss_one (ps_set (i := 5) sc_mach.nd rfl (Or.inl rfl) (pc FD hr2 pass0 (pa_cons (pv 0) (pa_cons pe_int pa_nil)))))) pss_nil)
      (pss_cons (ps_for PassesOwn.never rfl (pi_range1 (by rfl) B.range (pa_cons (pv 5) pa_nil)) (pg_name (i := 6) sc_mach.nd rfl (Or.inl rfl))
        (pss_cons (ps_set (i := 7) sc_mach.nd rfl (Or.inl rfl) (pc FD hr2 pass0 (pa_cons (pv 0) (pa_cons (pe_ix ix_dt (pv 1) pe_int (fun _ _ => rfl)) pa_nil))))
        (pss_cons (ps_set (i := 8) sc_mach.nd rfl (Or.inl rfl) (pc FD hr2 pass0 (pa_cons (pv 0) (pa_cons (pe_ix ix_dt (pv 1) pe_int (fun _ _ => rfl)) pa_nil))))
        (pss_one (ps_expr (pe_bm PySem.F.plainAttrs_list PySem.F.slot_list_append PySem.F.type_list_append mt_append (pv 4) (pa_cons (pe_tup (pa_cons (pv 7) (pa_cons (pc FM hr5 pass0 (pa_cons (pv 0) (pa_cons (pe_ix ix_dt (pv 1) pe_int (fun _ _ => rfl)) (pa_cons (pe_ix ix_dt (pv 1) pe_int (fun _ _ => rfl)) pa_nil)))) (pa_cons (pv 8) pa_nil)))) pa_nil)))))))
      (pss_cons (ps_set (i := 9) sc_mach.nd rfl (Or.inl rfl) (pe_lst pa_nil))
      (pss_cons (ps_for PassesOwn.never rfl (pi_range1 (by rfl) B.range (pa_cons (pc FP hr3 pass0 (pa_cons (pv 0) (pa_cons (gd_lst (hd := hd) (S := fun _ => True) (ps := fun l => (∀ d ∈ l, ∃ i : Int, d = .int i ∧ 0 ≤ i ∧ i ≤ 3) ∧ l.length = 8) (gds_all (gd_imp gd_int fun d e => ⟨_, e, by decide, by decide⟩) (gds_all (gd_imp gd_int fun d e => ⟨_, e, by decide, by decide⟩) (gds_all (gd_imp gd_int fun d e => ⟨_, e, by decide, by decide⟩) (gds_all (gd_imp gd_int fun d e => ⟨_, e, by decide, by decide⟩)
            (gds_all (gd_imp gd_int fun d e => ⟨_, e, by decide, by decide⟩) (gds_all (gd_imp gd_int fun d e => ⟨_, e, by decide, by decide⟩) (gds_all (gd_imp gd_int fun d e => ⟨_, e, by decide, by decide⟩) (gds_all (gd_imp gd_int fun d e => ⟨_, e, by decide, by decide⟩) gds_all0)))))))) (fun ds h => by rw [h.2]; decide)) pa_nil))) pa_nil)) (pg_name (i := 6) sc_mach.nd rfl (Or.inl rfl))
        (pss_one (ps_expr (pe_bm PySem.F.plainAttrs_list PySem.F.slot_list_append PySem.F.type_list_append mt_append (pv 9) (pa_cons (pe_tup (pa_cons (pc FD hr2 pass0 (pa_cons (pv 0) (pa_cons (pe_ix ix_dt (pv 1) pe_int (fun _ _ => rfl)) pa_nil))) (pa_cons (pc FV hr3 pass0 (pa_cons (pv 0) pa_nil)) pa_nil))) pa_nil)))))
      (pss_one (ps_ret (pe_lst (pa_cons (pe_ix ix_dt (pv 1) pe_int (fun _ _ => rfl)) (pa_cons (pv 9) (pa_cons (pv 4) pa_nil))))))))))))  , ?_⟩
    have szb : 100 ≤ sizeLine := szl_100 (Nat.le_refl _)
    refine ⟨_, rfl, hd, 8, rfl, hH, by decide, by decide, fun kind H1 kd0 kd1 kh1 => ?_⟩
    refine ⟨Nat.zero_le _, fun a0 na0 => ?_⟩
    have na0' := kh1.free hH na0
    have k0 : Kh hd H (upd H1 a0 (.lst [])) := kh1.put hH na0'
    have nah0 : Nh hd a0 := hH.fn a0 na0'
    have l0 : LsAt encAr (Nh hd) a0 (upd H1 a0 (.lst [])) [] := ⟨[], upd_same, .nil⟩
    refine ⟨_, rfl, _, rfl, hd, 8, rfl, k0.2, by decide, by decide, fun m0 H2 m00 m01 kh2 => ⟨_, _, rfl, rfl, ?_⟩⟩
    have k2 := k0.trans kh2
    have l2 := l0.kp nah0 kh2.1
    have hv2 := hv.kp k2.1
    dsimp only [gName]
    refine seq_of (fun σ' H' => ∃ a as more, H a = none ∧ Kh hd H H' ∧ LsAt encAr (Nh hd) a H' as ∧ ArsOk n as ∧ as.length ≤ 10 ∧ (0 ≤ more ∧ more ≤ 9) ∧ 1 ≤ (as.length : Int) + more ∧ σ' = [some (.ref hd), some v, some (.int 8), some (.int kind), some (.ref a), some (.int more), none, none, none, none]) (fun σ' H3 p => ?_) (fun nx hn => ?_)
    rotate_left
    · refine ⟨_, rfl, _, _, rfl, rfl, _, rfl, ?_⟩
      refine itd (fun c => ?_) (fun c => hn _ _ ⟨a0, [], 2 + m0, na0', k2, l2, .nil, by decide, by omega, by show 1 ≤ (0 : Int) + _; omega, rfl⟩)
      have rest : ∀ cut H3, 1 ≤ cut → cut ≤ n → Kh hd H2 H3 → spRings [.ref hd, v, .int cut] H3 (fun x H4 => gName 4 x [some (.ref hd), some v, some (.int 8), some (.int kind), some (.ref a0), some (.int (2 + m0)), none, none, none, none] H4 fun σ H => (tAsg (tCall spDraw [] E0 (tCons (tVar 0) (tCons (tC (.int 4)) tNil))) (gName 5)) { nx := nx, rt := Q } σ H) E0 := fun cut H3 c1 c2 kh3 => by
        have k3 := k2.trans kh3
        refine ⟨hd, n, k, cut, ms, v, rfl, kh3.2, ⟨n1, n8, k1, k20⟩, hms, hv2.kp kh3.1, c1, c2, fun a as H4 na kh4 l4 ok4 ln1 ln2 => ?_⟩
        have k4 := k3.trans kh4
        refine ⟨_, rfl, hd, 4, rfl, kh4.2, by decide, by decide, fun m1 H5 m10 m11 kh5 => ?_⟩
        exact hn _ _ ⟨a, as, m1, k3.free hH na, k4.trans kh5, l4.kp (hH.fn a (k3.free hH na)) kh5.1, ok4, ln2, by omega, by omega, rfl⟩
      refine ⟨_, rfl, _, rfl, _, rfl, _, _, rfl, rfl, _, rfl, ?_⟩
      refine itd (fun c2 => ?_) (fun c2 => ?_)
      · refine ⟨_, rfl, _, _, _, 0, _, hv2, rfl, rfl, rfl, fun w hw => ?_⟩
        cases hw
        exact rest n H2 n1 (Int.le_refl _) kh2.2.refl
      · refine ⟨_, rfl, _, rfl, _, _, _, 0, _, hv2, rfl, rfl, rfl, fun w hw => ?_⟩
        cases hw
        exact ⟨hd, n, rfl, kh2.2, by omega, by omega, fun q H3 q0 q1 kh3 => ⟨_, _, rfl, rfl, rest (1 + q) H3 (by omega) (by omega) kh3⟩⟩
    obtain ⟨a, as, more, na, k3, l3, ok3, ln3, ⟨mo0, mo9⟩, mo1, rfl⟩ := p
    have nah : Nh hd a := hH.fn a na
    -- more arrows
    refine seq_of (fun σ' H' => ∃ x6 x7 x8 as, Kh hd H H' ∧ LsAt encAr (Nh hd) a H' as ∧ ArsOk n as ∧ as.length ≤ 19 ∧ 1 ≤ as.length ∧ σ' = [some (.ref hd), some v, some (.int 8), some (.int kind), some (.ref a), some (.int more), x6, x7, x8, none]) (fun σ' H4 p => ?_) (fun nx hn => ?_)
    rotate_left
    · refine ⟨_, rfl, more, rfl, by omega, by omega, for_range (fun i σ H' => ∃ x6 x7 x8 as', σ = [some (.ref hd), some v, some (.int 8), some (.int kind), some (.ref a), some (.int more), x6, x7, x8, none] ∧ Kh hd H H' ∧ LsAt encAr (Nh hd) a H' as' ∧ ArsOk n as' ∧ as'.length = as.length + i)
        ⟨none, none, none, as, rfl, k3, l3, ok3, rfl⟩ (fun i σ H5 hi p => ?_) (fun σ H5 p => ?_)⟩
      · obtain ⟨x6, x7, x8, as', rfl, k5, l5, ok5, ln5⟩ := p
        have hv5 := hv.kp k5.1
        refine ⟨_, rfl, _, rfl, _, _, _, 0, _, hv5, rfl, rfl, rfl, fun w hw => ?_⟩
        cases hw
        refine ⟨hd, n, rfl, k5.2, by omega, by omega, fun r1 H6 r10 r11 kh6 => ?_⟩
        refine ⟨_, rfl, _, rfl, _, _, _, 0, _, hv5.kp kh6.1, rfl, rfl, rfl, fun w hw => ?_⟩
        cases hw
        refine ⟨hd, n, rfl, kh6.2, by omega, by omega, fun r2 H7 r20 r21 kh7 => ?_⟩
        have kh57 := kh6.trans kh7
        have hv7 := hv5.kp kh57.1
        obtain ⟨vs, hvs, _⟩ := id (l5.kp nah kh57.1)
        refine ⟨_, rfl, .inl ⟨rfl, vs, SqL.of hvs⟩, _, rfl, _, rfl, _, rfl, _, _, _, 1, _, hv7, rfl, rfl, rfl, fun w hw => ?_⟩
        cases hw
        refine ⟨_, rfl, _, _, _, 2, _, hv7, rfl, rfl, rfl, fun w hw => ?_⟩
        refine ⟨hd, k, ms, w, rfl, kh7.2, by omega, by omega, hms, hw, fun m y H8 hm kh8 hy => ⟨_, rfl, sz_3, fun q nq => ?_⟩⟩
        have kk := kh57.trans kh8
        have l8 := l5.kp nah kk.1
        have hv8 := kh8.1 _ _ nah hvs
        have hl := l8.len hv8
        have s1 := same_new (o := .tup [.int r1, y, .int r2]) nq
        have hv9 := s1 _ _ hv8
        refine ⟨a, vs, .ref q, rfl, rfl, hv9, by omega, ?_⟩
        have dy : Dt (Nx (Nh hd) a) H8 m.enc y := Dt.offL hv8 hy (tu_mv m)
        refine ⟨_, _, _, as' ++ [((r1, m, r2) : Ar)], rfl, ((k5.trans kk).same s1).put hH na, (l8.kp nah (.same s1)).push hv9 (Dt.newT ⟨kh8.2.none nq, Ne.symm (ne_of_none hv8 nq)⟩ nq (.cons (.int _) (.cons dy (.cons (.int _) .nil)))), ok5.push ⟨hm, ⟨r10, r11⟩, r20, r21⟩, ?_⟩
        rw [List.length_append, ln5]; rfl
      · obtain ⟨x6, x7, x8, as', rfl, k5, l5, ok5, ln5⟩ := p
        exact hn _ _ ⟨x6, x7, x8, as', k5, l5, ok5, by omega, by omega, rfl⟩
    obtain ⟨x6, x7, x8, as', k4, l4, ok4, ln4, ln4', rfl⟩ := p
    clear l3 k3 mo1 ln3 ok3
    -- starts
    refine ⟨Nat.zero_le _, fun b nb => ?_⟩
    have nb' := k4.free hH nb
    have nbh : Nh hd b := hH.fn b nb'
    obtain ⟨vs, hvs, hdl⟩ := id l4
    have nab : a ≠ b := ne_of_none hvs nb
    have s0 := same_new (o := .lst []) nb
    have k40 := k4.same s0
    have l40 := l4.kp nah (.same s0)
    have b0 : LsAt encSt (Nh hd) b (upd H4 b (.lst [])) [] := ⟨[], upd_same, .nil⟩
    dsimp only [gName]
    refine seq_of (fun σ' H' => ∃ x6 ss, Kh hd H H' ∧ LsAt encAr (Nh hd) a H' as' ∧ LsAt encSt (Nh hd) b H' ss ∧ (∀ p ∈ ss, (0 ≤ p.1 ∧ p.1 < n) ∧ -20 ≤ p.2 ∧ p.2 ≤ 20) ∧ ss.length ≤ 3 ∧ σ' = [some (.ref hd), some v, some (.int 8), some (.int kind), some (.ref a), some (.int more), x6, x7, x8, some (.ref b)]) (fun σ' H4 p => ?_) (fun nx hn => ?_)
    rotate_left
    · refine ⟨_, rfl, trivial, k40.2, fun d u H5 hd5 kh5 hu => ?_⟩
      obtain ⟨ds, rfl, hds, hdl8⟩ := hd5
      refine ⟨hd, _, u, ds, rfl, kh5.2, hu, rfl, by omega, by omega, fun e y H6 he kh6 hy => ?_⟩
      obtain ⟨cnt, rfl, c0, c3⟩ := hds e he
      cases hy
      have kh56 := kh5.trans kh6
      refine ⟨cnt, rfl, by omega, by omega, for_range (fun i σ H' => ∃ x6 ss, σ = [some (.ref hd), some v, some (.int 8), some (.int kind), some (.ref a), some (.int more), x6, x7, x8, some (.ref b)] ∧ Kh hd H H' ∧ LsAt encAr (Nh hd) a H' as' ∧ LsAt encSt (Nh hd) b H' ss ∧ (∀ p ∈ ss, (0 ≤ p.1 ∧ p.1 < n) ∧ -20 ≤ p.2 ∧ p.2 ≤ 20) ∧ ss.length = i)
        ⟨x6, [], rfl, k40.trans kh56, l40.kp nah kh56.1, b0.kp nbh kh56.1, fun p hp => (by cases hp), rfl⟩ (fun i σ H7 hi p => ?_) (fun σ H7 p => ?_)⟩
      · obtain ⟨x6, ss, rfl, k7, la, lb, hss, hls⟩ := p
        obtain ⟨ws, hws, _⟩ := id lb
        refine ⟨_, rfl, .inl ⟨rfl, ws, SqL.of hws⟩, _, rfl, _, rfl, _, _, _, 0, _, hv.kp k7.1, rfl, rfl, rfl, fun w hw => ?_⟩
        cases hw
        refine ⟨hd, n, rfl, k7.2, by omega, by omega, fun r1 H8 r10 r11 kh8 => ⟨_, rfl, hd, rfl, kh8.2, fun r2 H9 r20 r21 kh9 => ⟨sz_2, fun q nq => ?_⟩⟩⟩
        have kk := kh8.trans kh9
        have lb9 := lb.kp nbh kk.1
        have la9 := la.kp nah kk.1
        have hw9 := kk.1 _ _ nbh hws
        have hl := lb9.len hw9
        have s1 := same_new (o := .tup [.int r1, .int r2]) nq
        have hw10 := s1 _ _ hw9
        refine ⟨b, ws, .ref q, rfl, rfl, hw10, by omega, ?_⟩
        refine ⟨some (.int (0 + (i : Nat))), ss ++ [((r1, r2) : Int × Int)], rfl, ((k7.trans kk).same s1).put hH nb', ?_, (lb9.kp nbh (.same s1)).push hw10 (Dt.newT ⟨kh9.2.none nq, Ne.symm (ne_of_none hw9 nq)⟩ nq (.cons (.int _) (.cons (.int _) .nil))), fun p hp => ?_, by rw [List.length_append, hls]; rfl⟩
        · obtain ⟨vs9, h1, h2⟩ := la9.kp nah (.same s1)
          refine ⟨vs9, by rw [upd_ne nab]; exact h1, ?_⟩
          have h3 := DtL.offL hw10 h2 (tu_map tu_ar as')
          exact (h3.kp .putx).sub Nx.sub
        · rcases List.mem_append.mp hp with e | e
          · exact hss p e
          · rw [List.mem_singleton.mp e]; exact ⟨⟨r10, r11⟩, r20, r21⟩
      · obtain ⟨x6, ss, rfl, k7, la, lb, hss, hls⟩ := p
        exact hn _ _ ⟨x6, ss, k7, la, lb, hss, by omega, rfl⟩
    obtain ⟨x6, ss, k5, la, lb, hss, hls, rfl⟩ := p
    refine ⟨_, rfl, _, _, _, 0, _, hv.kp k5.1, rfl, rfl, rfl, fun w hw => ?_⟩
    cases hw
    refine ⟨_, rfl, _, rfl, sz_3, fun q nq => ?_⟩
    exact kq n ss as' _ _ ⟨n1, n8, hss, hls, ok4, by omega, ln4'⟩ (k5.same (same_new nq)) (Dt.newL (k5.2.none nq) nq (.cons (.int _) (.cons (lb.dt nbh) (.cons (la.dt nah) .nil))))
end
end K8
set_option maxRecDepth 100000
set_option maxHeartbeats 1000000
/-! Q4: the law's rim, block, room; shown. -/
namespace K8
open PySem PySem.Spec PyProof.Rows L2 L2H

theorem parts_w1 {m : Mv} {w1 w2 : Str} {ks : List Int} (h : m.parts = some (w1, w2, ks)) : w1 ≠ "stay" ∧ (w2 = "add" → w1 = "deed") := by
  cases m with
  | stay => cases h
  | deed l => cases l <;> (cases h; exact ⟨by decide +kernel, fun _ => rfl⟩)
  | so l => cases l <;> (cases h; exact ⟨by decide +kernel, fun e => absurd e (by decide +kernel)⟩)
  | nt l => cases l <;> (cases h; exact ⟨by decide +kernel, fun e => absurd e (by decide +kernel)⟩)
section
variable {P : Program} {w : World} {K : PySem.W.Frag} {mg : Str → Option Value} {base : Heap}
def spLRim : Sp := fun vs H Q _ => ∃ (N : Addr → Prop) (ss : List (Int × Int)) (as : List Ar) (v1 v2 : V), vs = [v1, v2] ∧ Dt N H (.list (ss.map encSt)) v1 ∧ Dt N H (.list (as.map encAr)) v2 ∧ (∀ a ∈ as, a.2.1.rng) ∧ Q (.int (rimOf ss as)) H
theorem sc_lrim : FnScope ["_law_starts", "_law_arrows", "_law_most", "_law_start", "_law_arrow", "_law_move_here"] ["_law_starts", "_law_arrows"] (defScope (top 39)) := ⟨rfl, rfl, rfl, by decide +kernel, rfl, by decide +kernel, by decide +kernel⟩
theorem ok_lrim (B : Bn mg) (D : Dn K mg "_law_rim" 39 ["_law_starts", "_law_arrows"]) : Ok P w K mg base CX0 1 "_law_rim" ["_law_starts", "_law_arrows"] spLRim := by
  refine D.ok sc_lrim (fun vs H Q E h => ?_) (fun f cdv A outer s H vs Q E hr h => ?_)
  · obtain ⟨N, ss, as, v1, v2, rfl, _⟩ := h; rfl
  · obtain ⟨N, ss, as, v1, v2, rfl, hd1, hd2, hrg, k⟩ := h
    refine ⟨_, pss_cons (ps_set (i := 2) sc_lrim.nd rfl (Or.inl rfl) pe_int)
      (pss_cons (ps_for PassesOwn.never rfl (pi_dt (pv 0)) (pg_name (i := 3) sc_lrim.nd rfl (Or.inl rfl))
        (pss_one (ps_set (i := 2) sc_lrim.nd rfl (Or.inl rfl) (pe_callB (call_max2 rfl) (by rfl) B.max b_max (pa_cons (pv 2) (pa_cons (pe_callB call_abs (by rfl) B.abs b_abs (pa_cons (pe_ix ix_dt (pv 3) pe_int (fun _ _ => rfl)) pa_nil)) pa_nil))))))
      (pss_cons (ps_for PassesOwn.never rfl (pi_dt (pv 1)) (pg_name (i := 4) sc_lrim.nd rfl (Or.inl rfl))
        (pss_cons (ps_set (i := 5) sc_lrim.nd rfl (Or.inl rfl) (pe_ix ix_dt (pv 4) pe_int (fun _ _ => rfl)))
        (pss_one (ps_if (PW.pt (pw_and (pt_cmpR neS (pe_ix ix_dt (pv 5) pe_int (fun _ _ => rfl)) pe_str (nomark _))
            (pw_and1 (pt_cmpR neS (pe_ix ix_dt (pe_ix ix_dt (pv 5) pe_int (fun _ _ => rfl)) pe_int (fun _ _ => rfl)) pe_str (nomark _)))))
          (pss_one (ps_set (i := 2) sc_lrim.nd rfl (Or.inl rfl) (pe_callB (call_max2 rfl) (by rfl) B.max b_max (pa_cons (pv 2) (pa_cons (pe_callB call_abs (by rfl) B.abs b_abs
            (pa_cons (pe_ix ix_dt (pe_ix ix_dt (pv 5) pe_int (fun _ _ => rfl)) pe_int (fun _ _ => rfl)) pa_nil)) pa_nil))))) pss_nil))))
      (pss_one (ps_ret (pv 2))))), ?_⟩
    refine ⟨v1, rfl, N, _, _, hd1, rfl, for_dt rfl (fun i σ H' => H' = H ∧ ∃ x y z, σ = [some v1, some v2, some (.int ((ss.take i).foldl widS 1)), x, y, z]) ⟨rfl, none, none, none, rfl⟩ (fun i σ H' _ p => by rw [p.1]; exact hd1) (fun i e y σ H' hi p hy => ?_) (fun σ H' p => ?_)⟩
    · obtain ⟨rfl, x0, y0, z0, rfl⟩ := p
      obtain ⟨st, hst, rfl⟩ := map_get hi
      refine ⟨_, rfl, _, rfl, N, _, _, 1, _, hy, rfl, rfl, rfl, fun v5 h5 => ?_⟩
      cases h5
      refine ⟨_, rfl, _, _, rfl, ?_⟩
      exact ⟨rfl, some y, y0, z0, by rw [foldl_take hst]; rfl⟩
    · obtain ⟨rfl, x0, y0, z0, rfl⟩ := p
      rw [List.length_map, List.take_length]
      refine ⟨v2, rfl, N, _, _, hd2, rfl, for_dt rfl (fun i σ H'' => H'' = H' ∧ ∃ x y z, σ = [some v1, some v2, some (.int ((as.take i).foldl widA (ss.foldl widS 1))), x, y, z]) ⟨rfl, x0, y0, z0, rfl⟩ (fun i σ H'' _ p => by rw [p.1]; exact hd2) (fun i e y σ H'' hi p hy => ?_) (fun σ H'' p => ?_)⟩
      · obtain ⟨rfl, x0, y0, z0, rfl⟩ := p
        obtain ⟨a, hst, rfl⟩ := map_get hi
        obtain ⟨s1, m, s2⟩ := a
        have hm := Mv.rngP (hrg _ (List.mem_of_getElem? hst))
        refine ⟨_, rfl, N, _, _, 1, _, hy, rfl, rfl, rfl, fun v5 h5 => ?_⟩
        have h5' : Dt N H'' m.enc v5 := h5
        rw [Mv.enc_parts] at h5'
        have hw : widA ((as.take i).foldl widA (ss.foldl widS 1)) (s1, m, s2) = widP ((as.take i).foldl widA (ss.foldl widS 1)) m.parts := rfl
        cases hp : m.parts with
        | none =>
          rw [hp] at h5' hw
          refine ⟨_, rfl, N, _, _, 0, _, h5', rfl, rfl, rfl, fun v6 h6 => ?_⟩
          cases h6
          refine ⟨_, _, rfl, rfl, _, rfl, itno (by decide +kernel) (iteF ?_)⟩
          exact ⟨rfl, x0, some y, some v5, by rw [foldl_take hst, hw]; rfl⟩
        | some t =>
          obtain ⟨w1, w2, ks⟩ := t
          have hp1 := parts_w1 hp
          rw [hp] at h5' hw hm
          refine ⟨_, rfl, N, _, _, 0, _, h5', rfl, rfl, rfl, fun v6 h6 => ?_⟩
          cases h6
          refine ⟨_, _, rfl, rfl, _, rfl, ity (by rw [decide_eq_false hp1.1]; rfl) ?_⟩
          refine ⟨_, rfl, N, _, _, 1, _, h5', rfl, rfl, rfl, fun v7 h7 => ⟨N, _, _, 0, _, h7, rfl, rfl, rfl, fun v8 h8 => ?_⟩⟩
          cases h8
          refine ⟨_, _, rfl, rfl, _, rfl, ?_⟩
          match ks, h5', hw, hm, h7 with
          | [], h5', hw, hm, h7 =>
            refine itno (by rw [decide_eq_true (hm.1 rfl)]; rfl) ?_
            exact ⟨rfl, x0, some y, some v5, by rw [foldl_take hst, hw]; rfl⟩
          | kk :: r, h5', hw, hm, h7 =>
            refine ity (by rw [decide_eq_false fun e => by cases hm.2.1 e]; rfl) ?_
            refine ⟨_, rfl, _, rfl, N, _, _, 1, _, h5', rfl, rfl, rfl, fun v9 h9 => ⟨N, _, _, 1, _, h9, rfl, rfl, rfl, fun v10 h10 => ?_⟩⟩
            cases h10
            refine ⟨_, rfl, _, _, rfl, ?_⟩
            exact ⟨rfl, x0, some y, some v5, by rw [foldl_take hst, hw]; rfl⟩
      · obtain ⟨rfl, x0, y0, z0, rfl⟩ := p
        rw [List.length_map, List.take_length]
        exact ⟨_, rfl, k⟩

/-! ### the least common multiple -/
theorem lcm_min {a b k : Int} (a1 : 1 ≤ a) (b1 : 1 ≤ b) (k1 : 1 ≤ k) (hk : (a * k) % b = 0) (hmin : ∀ j : Int, 1 ≤ j → j < k → (a * j) % b ≠ 0) : a * k = lcmI a b := by
  have da : a ∣ lcmI a b := by
    have h : a.natAbs ∣ Nat.lcm a.natAbs b.natAbs := Nat.dvd_lcm_left _ _
    have h' := Int.natCast_dvd_natCast.mpr h
    rw [Int.natAbs_of_nonneg (by omega)] at h'
    exact h'
  have db : b ∣ lcmI a b := by
    have h : b.natAbs ∣ Nat.lcm a.natAbs b.natAbs := Nat.dvd_lcm_right _ _
    have h' := Int.natCast_dvd_natCast.mpr h
    rw [Int.natAbs_of_nonneg (show 0 ≤ b by omega)] at h'
    exact h'
  have pos : 0 < lcmI a b := by
    have : 0 < Nat.lcm a.natAbs b.natAbs := Nat.lcm_pos (by omega) (by omega)
    show (0 : Int) < ((Nat.lcm a.natAbs b.natAbs : Nat) : Int)
    omega
  have dk : lcmI a b ∣ a * k := by
    have h1 : a.natAbs ∣ (a * k).natAbs := Int.natAbs_dvd_natAbs.mpr (Int.dvd_mul_right a k)
    have h2 : b.natAbs ∣ (a * k).natAbs := Int.natAbs_dvd_natAbs.mpr (Int.dvd_of_emod_eq_zero hk)
    have h3 := Nat.lcm_dvd h1 h2
    have h4 := Int.natCast_dvd_natCast.mpr h3
    rw [Int.natAbs_of_nonneg (Int.mul_nonneg (by omega) (by omega))] at h4
    exact h4
  obtain ⟨j, hj⟩ := da
  have j1 : 1 ≤ j := by
    rcases Int.lt_or_le 0 j with h | h
    · omega
    · have : a * j ≤ 0 := Int.mul_nonpos_of_nonneg_of_nonpos (by omega) h
      omega
  have hjk : ¬ j < k := fun h => hmin j j1 h (by rw [← hj]; exact Int.emod_eq_zero_of_dvd db)
  have h5 : lcmI a b ≤ a * k := Int.le_of_dvd (Int.mul_pos (by omega) (by omega)) dk
  have h6 : a * k ≤ a * j := Int.mul_le_mul_of_nonneg_left (by omega) (by omega)
  omega
theorem lcm_in {a b : Int} (a1 : 1 ≤ a) (b1 : 1 ≤ b) : (a * b) % b = 0 := Int.mul_emod_left a b
def spBoth : Sp := fun vs H Q _ => ∃ a b : Int, vs = [.int a, .int b] ∧ 1 ≤ a ∧ a ≤ 60 ∧ 1 ≤ b ∧ b ≤ 6 ∧ Q (.int (lcmI a b)) H
theorem sc_both : FnScope ["_law_one", "_law_other", "_law_k"] ["_law_one", "_law_other"] (defScope (top 40)) := ⟨rfl, rfl, rfl, by decide +kernel, rfl, by decide +kernel, by decide +kernel⟩
theorem ok_both (B : Bn mg) (D : Dn K mg "_law_both_divide" 40 ["_law_one", "_law_other"]) : Ok P w K mg base CX0 1 "_law_both_divide" ["_law_one", "_law_other"] spBoth := by
  refine D.ok sc_both (fun vs H Q E h => ?_) (fun f cdv A outer s H vs Q E hr h => ?_)
  · obtain ⟨a, b, rfl, _⟩ := h; rfl
  · obtain ⟨a, b, rfl, a1, a60, b1, b6, k⟩ := h
    refine ⟨_, pss_cons (ps_for PassesOwn.never rfl (pi_range2 (by rfl) B.range (pa_cons pe_int (pa_cons pe_int pa_nil))) (pg_name (i := 2) sc_both.nd rfl (Or.inl rfl))
        (pss_one (ps_if (pt_cmpR eqI (pe_op op_mod (i1 B (pe_op op_mul (pv 0) (pv 2))) (pv 1)) pe_int (nomark _)) (pss_one (ps_ret (pe_op op_mul (pv 0) (pv 2)))) pss_nil)))
      (pss_one (ps_ret (pe_op op_mul (pv 0) (pv 1)))), ?_⟩
    refine ⟨1, 61, rfl, ⟨by decide, by decide, by decide, by decide⟩, for_range (fun i σ H' => H' = H ∧ (∀ j : Int, 1 ≤ j → j < 1 + (i : Nat) → (a * j) % b ≠ 0) ∧ ∃ x, σ = [some (.int a), some (.int b), x]) ⟨rfl, fun j h1 h2 => by omega, none, rfl⟩ (fun i σ H' hi p => ?_) (fun σ H' p => ?_)⟩
    · obtain ⟨rfl, hm, x, rfl⟩ := p
      have hi60 : (i : Int) < 60 := by have : ((61 : Int) - 1).toNat = 60 := rfl; omega
      refine ⟨_, rfl, _, rfl, _, _, rfl, rfl, .inl ⟨by omega, by omega⟩, _, rfl, _, rfl, _, _, rfl, rfl, by show 0 < b; omega, _, _, rfl, rfl, _, rfl, ?_⟩
      refine itd (fun c => ?_) (fun c => ⟨rfl, fun j h1 h2 => ?_, _, rfl⟩)
      · refine ⟨_, rfl, _, rfl, _, _, rfl, rfl, .inl ⟨by omega, by omega⟩, ?_⟩
        have e := lcm_min a1 b1 (show 1 ≤ 1 + (i : Int) by omega) c hm
        show Q (.int (a * (1 + (i : Nat)))) H'
        rw [e]; exact k
      · by_cases h : j < 1 + (i : Nat)
        · exact hm j h1 h
        · have : j = 1 + (i : Nat) := by omega
          rw [this]; exact c
    · obtain ⟨rfl, hm, x, rfl⟩ := p
      exact absurd (lcm_in a1 b1) (hm b b1 (by have : ((61 : Int) - 1).toNat = 60 := rfl; omega))
end
end K8
set_option maxRecDepth 100000
set_option maxHeartbeats 1000000
/-! Q5: the law's block, room; shown. -/
namespace K8
open PySem PySem.Spec PyProof.Rows L2 L2H
section
variable {P : Program} {w : World} {K : PySem.W.Frag} {mg : Str → Option Value} {base : Heap}
def spLBlk : Sp := fun vs H Q _ => ∃ (N : Addr → Prop) (as : List Ar) (v : V), vs = [v] ∧ Dt N H (.list (as.map encAr)) v ∧ (∀ a ∈ as, a.2.1.rng) ∧ ∀ H', Same H H' → Q (.int (blkOf as)) H'
theorem sc_lblk : FnScope ["_law_arrows", "_law_step", "_law_modulus", "_law_arrow", "_law_move_here", "_law_block_here", "_law_turn"] ["_law_arrows"] (defScope (top 41)) := ⟨rfl, rfl, rfl, by decide +kernel, rfl, by decide +kernel, by decide +kernel⟩
theorem ok_lblk (B : Bn mg) (D : Dn K mg "_law_block" 41 ["_law_arrows"]) (FB : Ok P w K mg base CX0 1 "_law_both_divide" ["_law_one", "_law_other"] spBoth) : Ok P w K mg base CX0 2 "_law_block" ["_law_arrows"] spLBlk := by
  refine D.ok sc_lblk (fun vs H Q E h => ?_) (fun f cdv A outer s H vs Q E hr h => ?_)
  · obtain ⟨N, as, v, rfl, _⟩ := h; rfl
  · obtain ⟨N0, as, v, rfl, hd0, hrg, k⟩ := h
    have hd := hd0.sub (N' := fun _ => True) fun _ _ => trivial
    refine ⟨_, pss_cons (ps_set (i := 1) sc_lblk.nd rfl (Or.inl rfl) pe_int)
      (pss_cons (ps_set (i := 2) sc_lblk.nd rfl (Or.inl rfl) pe_int)
      (pss_cons (ps_for PassesOwn.never rfl (pi_dt (pv 0)) (pg_name (i := 3) sc_lblk.nd rfl (Or.inl rfl))
        (pss_cons (ps_set (i := 4) sc_lblk.nd rfl (Or.inl rfl) (pe_ix ix_dt (pv 3) pe_int (fun _ _ => rfl)))
        (pss_cons (ps_if (PW.pt (pw_and (pt_cmpR eqS (pe_ix ix_dt (pv 4) pe_int (fun _ _ => rfl)) pe_str (nomark _)) (pw_and1 (pt_cmpR eqS (pe_ix ix_dt (pe_ix ix_dt (pv 4) pe_int (fun _ _ => rfl)) pe_int (fun _ _ => rfl)) pe_str (nomark _)))))
          (pss_one (ps_set (i := 1) sc_lblk.nd rfl (Or.inl rfl) (pe_callB (call_max2 rfl) (by rfl) B.max b_max (pa_cons (pv 1) (pa_cons (pe_callB call_abs (by rfl) B.abs b_abs (pa_cons (pe_ix ix_dt (pe_ix ix_dt (pv 4) pe_int (fun _ _ => rfl)) pe_int (fun _ _ => rfl)) pa_nil)) pa_nil))))) pss_nil)
        (pss_one (ps_if (PW.pt (pw_and (pt_cmpR neS (pe_ix ix_dt (pv 4) pe_int (fun _ _ => rfl)) pe_str (nomark _)) (pw_and1 (pt_cmpR inSs (pe_ix ix_dt (pe_ix ix_dt (pv 4) pe_int (fun _ _ => rfl)) pe_int (fun _ _ => rfl)) (pe_lst (pa_cons pe_str (pa_cons pe_str pa_nil))) rfl))))
          (pss_one (ps_set (i := 2) sc_lblk.nd rfl (Or.inl rfl) (pc FB hr pass0 (pa_cons (pv 2) (pa_cons (pe_ix ix_dt (pe_ix ix_dt (pv 4) pe_int (fun _ _ => rfl)) pe_int (fun _ _ => rfl)) pa_nil))))) pss_nil)))))
      (pss_cons (ps_set (i := 5) sc_lblk.nd rfl (Or.inl rfl) (pv 2))
      (pss_cons (ps_for PassesOwn.never rfl (pi_range1 (by rfl) B.range (pa_cons pe_int pa_nil)) (pg_name (i := 6) sc_lblk.nd rfl (Or.inl rfl))
        (pss_one (ps_if (pt_cmpR op_lt (pv 5) (pv 1) (nomark _)) (pss_one (ps_set (i := 5) sc_lblk.nd rfl (Or.inl rfl) (pe_op op_add (pv 5) (pv 2)))) pss_nil)))
      (pss_one (ps_ret (pv 5))))))), ?_⟩
    refine ⟨v, rfl, fun _ => True, _, _, hd, rfl, for_dt rfl (fun i σ H' => Same H H' ∧ ∃ x y, σ = [some v, some (.int ((as.take i).foldl blkA (1, 1)).1), some (.int ((as.take i).foldl blkA (1, 1)).2), x, y, none, none]) ⟨Same.refl _, none, none, rfl⟩ (fun i σ H' _ p => hd.same p.1) (fun i e y σ H' hi p hy => ?_) (fun σ H' p => ?_)⟩
    · obtain ⟨s1, x0, y0, rfl⟩ := p
      obtain ⟨a, hst, rfl⟩ := map_get hi
      obtain ⟨a1, m, a2⟩ := a
      have hm := Mv.rngP (hrg _ (List.mem_of_getElem? hst))
      have hb : BlkOk ((as.take i).foldl blkA (1, 1)) := BlkOk.foldl (fun a ha => hrg a (List.mem_of_mem_take ha)) ⟨by decide, by decide, by decide, by decide⟩
      have hw : (as.take (i + 1)).foldl blkA (1, 1) = blkP ((as.take i).foldl blkA (1, 1)) m.parts := foldl_take hst
      rw [hw]
      generalize (as.take i).foldl blkA (1, 1) = pp at hb
      obtain ⟨st, md⟩ := pp
      refine ⟨_, rfl, _, _, _, 1, _, hy, rfl, rfl, rfl, fun v5 h5 => ?_⟩
      have h5' : Dt (fun _ => True) H' m.enc v5 := h5
      rw [Mv.enc_parts] at h5'
      cases hp : m.parts with
      | none =>
        rw [hp] at h5'
        refine ⟨_, rfl, _, _, _, 0, _, h5', rfl, rfl, rfl, fun v6 h6 => ?_⟩
        cases h6
        refine ⟨_, _, rfl, rfl, _, rfl, itno (by decide +kernel) (iteF ?_)⟩
        refine ⟨_, rfl, _, _, _, 0, _, h5', rfl, rfl, rfl, fun v6 h6 => ?_⟩
        cases h6
        exact ⟨_, _, rfl, rfl, _, rfl, itno (by decide +kernel) (iteF ⟨s1, some y, some v5, rfl⟩)⟩
      | some t =>
        obtain ⟨w1, w2, ks⟩ := t
        have hp1 := parts_w1 hp
        rw [hp] at h5' hm
        -- the second question, from any step
        have second : ∀ st' : Int, tIfS (tAnd (tTest (tOp rNeS (tOp rIxDt (tVar 4) (tC (.int 0))) (tC (.str "stay")))) (tTest (tOp rInSs (tOp rIxDt (tOp rIxDt (tVar 4) (tC (.int 1))) (tC (.int 0))) (tLst (tCons (tC (.str "mod")) (tCons (tC (.str "rest")) tNil))))))
            (tAsg (tCall spBoth [] E0 (tCons (tVar 2) (tCons (tOp rIxDt (tOp rIxDt (tVar 4) (tC (.int 1))) (tC (.int 1))) tNil))) (gName 2)) tNext { nx := fun σ H' => Same H H' ∧ ∃ x y, σ = [some v, some (.int st'), some (.int (blkP (st, md) (some (w1, w2, ks))).2), x, y, none, none], rt := Q } [some v, some (.int st'), some (.int md), some y, some v5, none, none] H' := fun st' => by
          refine ⟨_, rfl, _, _, _, 0, _, h5', rfl, rfl, rfl, fun v6 h6 => ?_⟩
          cases h6
          refine ⟨_, _, rfl, rfl, _, rfl, ity (by rw [decide_eq_false hp1.1]; rfl) ?_⟩
          refine ⟨_, rfl, _, _, _, 1, _, h5', rfl, rfl, rfl, fun v7 h7 => ⟨_, _, _, 0, _, h7, rfl, rfl, rfl, fun v8 h8 => ?_⟩⟩
          cases h8
          refine ⟨sz_2, fun q2 nq2 => ⟨_, q2, ["mod", "rest"], rfl, rfl, .inr upd_same, _, rfl, ?_⟩⟩
          have s2 := same_up (o := .lst [.str "mod", .str "rest"]) s1 nq2
          cases ks with
          | nil =>
            exact itno (by rw [hm.1 rfl]; decide +kernel) ⟨s2, some y, some v5, rfl⟩
          | cons kk r =>
            obtain ⟨r1, r2, r3⟩ := hm.2.2 kk r rfl
            have ep : (blkP (st, md) (some (w1, w2, kk :: r))).2 = (if w2 = "mod" ∨ w2 = "rest" then lcmI md kk else md) := rfl
            rw [ep]
            by_cases c2 : w2 = "mod" ∨ w2 = "rest"
            · refine ity (decide_eq_true (by simpa using c2)) ?_
              have h5s := h5'.same (same_new (o := .lst [.str "mod", .str "rest"]) nq2)
              refine ⟨_, rfl, _, rfl, _, _, _, 1, _, h5s, rfl, rfl, rfl, fun v9 h9 => ⟨_, _, _, 1, _, h9, rfl, rfl, rfl, fun v10 h10 => ?_⟩⟩
              cases h10
              refine ⟨md, kk, rfl, hb.2.2.1, dvd60_le hb.2.2.2, (r3 c2).1, (r3 c2).2, s2, some y, some v5, ?_⟩
              rw [if_pos c2]; rfl
            · refine itno (decide_eq_false (by simpa using c2)) ⟨s2, some y, some v5, ?_⟩
              rw [if_neg c2]
        refine ⟨_, rfl, _, _, _, 0, _, h5', rfl, rfl, rfl, fun v6 h6 => ?_⟩
        cases h6
        refine ⟨_, _, rfl, rfl, _, rfl, ?_⟩
        refine itd (fun c1 => ?_) (fun c1 => iteF ?_)
        · refine ⟨_, rfl, _, _, _, 1, _, h5', rfl, rfl, rfl, fun v7 h7 => ⟨_, _, _, 0, _, h7, rfl, rfl, rfl, fun v8 h8 => ?_⟩⟩
          cases h8
          refine ⟨_, _, rfl, rfl, _, rfl, ?_⟩
          refine itd (fun c2 => ?_) (fun c2 => ?_)
          · cases ks with
            | nil =>
              have ht : w2 = Str.ofString "turn" := hm.1 rfl
              rw [ht] at c2
              exact absurd c2 (by decide +kernel)
            | cons kk r =>
              refine ⟨_, rfl, _, rfl, _, _, _, 1, _, h5', rfl, rfl, rfl, fun v9 h9 => ⟨_, _, _, 1, _, h9, rfl, rfl, rfl, fun v10 h10 => ?_⟩⟩
              cases h10
              refine ⟨_, rfl, _, _, rfl, ?_⟩
              have e1 : (blkP (st, md) (some (w1, w2, kk :: r))).1 = mx st (ab kk) := if_pos c2
              rw [e1]
              exact second (mx st (ab kk))
          · have e1 : (blkP (st, md) (some (w1, w2, ks))).1 = st := by
              cases ks with
              | nil => rfl
              | cons kk r => exact if_neg c2
            rw [e1]
            exact second st
        · have e1 : (blkP (st, md) (some (w1, w2, ks))).1 = st := by
            cases ks with
            | nil => rfl
            | cons kk r => exact if_neg fun c2 => c1 (hp1.2 c2)
          rw [e1]
          exact second st
    · obtain ⟨s1, x0, y0, rfl⟩ := p
      rw [List.length_map, List.take_length]
      have hb : BlkOk (as.foldl blkA (1, 1)) := BlkOk.foldl hrg ⟨by decide, by decide, by decide, by decide⟩
      have kk : Q (.int ((as.foldl blkA (1, 1)).2 * (((as.foldl blkA (1, 1)).1 + (as.foldl blkA (1, 1)).2 - 1) / (as.foldl blkA (1, 1)).2))) H' := k H' s1
      generalize as.foldl blkA (1, 1) = pp at hb kk
      obtain ⟨st, md⟩ := pp
      have b1 : 1 ≤ st := hb.1
      have b2 : st ≤ 20 := hb.2.1
      have b3 : 1 ≤ md := hb.2.2.1
      obtain ⟨c, hc⟩ : ∃ c : Int, c = (st + md - 1) / md := ⟨_, rfl⟩
      have c1 : md * c ≤ st + md - 1 := by rw [hc]; exact Int.mul_ediv_self_le (by omega)
      have c2 : st + md - 1 < md * c + md := by rw [hc]; exact Int.lt_mul_ediv_self_add (by omega)
      have kk' : Q (.int (md * c)) H' := by rw [hc]; exact kk
      have cp : 1 ≤ c := by
        rcases Int.lt_or_le 0 c with h | h
        · omega
        · have : md * c ≤ 0 := Int.mul_nonpos_of_nonneg_of_nonpos (by omega) h
          omega
      have c20 : c ≤ 20 := by
        have : ¬ 21 ≤ c := fun h => by
          have h2 : md * 21 ≤ md * c := Int.mul_le_mul_of_nonneg_left h (by omega)
          omega
        omega
      refine ⟨_, rfl, ?_⟩
      refine ⟨20, rfl, by decide, by decide, for_range (fun i σ H'' => H'' = H' ∧ ∃ j x, (1 ≤ j ∧ j ≤ c ∧ (j = c ∨ j = 1 + (i : Nat))) ∧ σ = [some v, some (.int st), some (.int md), x0, y0, some (.int (md * j)), x]) ⟨rfl, 1, none, ⟨by decide, cp, .inr rfl⟩, ?_⟩ (fun i σ H'' hi p => ?_) (fun σ H'' p => ?_)⟩
      · rw [Int.mul_one]; rfl
      · obtain ⟨rfl, j, x, ⟨j1, jc, jj⟩, rfl⟩ := p
        refine ⟨_, rfl, _, rfl, _, _, rfl, rfl, _, rfl, ?_⟩
        refine itd (fun e => ?_) (fun e => ?_)
        · refine ⟨_, rfl, _, rfl, _, _, rfl, rfl, rfl, j + 1, some (.int (0 + (i : Nat))), ⟨by omega, ?_, ?_⟩, ?_⟩
          · have e' : md * j < st := e
            have : ¬ c ≤ j := fun h => by
              have h2 : md * c ≤ md * j := Int.mul_le_mul_of_nonneg_left h (by omega)
              omega
            omega
          · have e' : md * j < st := e
            rcases jj with h | h
            · exfalso
              rw [h] at e'
              omega
            · right; rw [h]; omega
          · have e2 : md * j + md = md * (j + 1) := by rw [Int.mul_add, Int.mul_one]
            show [some v, some (V.int st), some (.int md), x0, y0, some (.int (md * j + md)), some (.int (0 + (i : Nat)))] = _
            rw [e2]
        · refine ⟨rfl, j, _, ⟨j1, jc, .inl ?_⟩, rfl⟩
          have e' : ¬ md * j < st := e
          have : ¬ j < c := fun h => by
            have h2 : md * (j + 1) ≤ md * c := Int.mul_le_mul_of_nonneg_left (by omega) (by omega)
            rw [Int.mul_add, Int.mul_one] at h2
            omega
          omega
      · obtain ⟨rfl, j, x, ⟨j1, jc, jj⟩, rfl⟩ := p
        have ej : j = c := by
          have e20 : (20 : Int).toNat = 20 := rfl
          rcases jj with h | h
          · exact h
          · rw [e20] at h; omega
        rw [ej]
        exact ⟨_, rfl, kk'⟩
/-! ### room, shown -/
def spLRoom : Sp := fun vs H Q _ => ∃ (N : Addr → Prop) (r b st n : Int), vs = [.int r, .int b, .int st, .int n] ∧ 0 < b ∧ b < 1073741824 ∧ Fn N H ∧ ∀ v H', Same H H' → Dt N H' (roomI r b st n) v → Q v H'
theorem sc_lroom : FnScope ["_law_rim_here", "_law_block_here", "_law_station", "_law_number", "_law_beyond", "_law_side"] ["_law_rim_here", "_law_block_here", "_law_station", "_law_number"] (defScope (top 42)) := ⟨rfl, rfl, rfl, by decide +kernel, rfl, by decide +kernel, by decide +kernel⟩
theorem ok_lroom (B : Bn mg) (D : Dn K mg "_law_room" 42 ["_law_rim_here", "_law_block_here", "_law_station", "_law_number"]) : Ok P w K mg base CX0 1 "_law_room" ["_law_rim_here", "_law_block_here", "_law_station", "_law_number"] spLRoom := by
  refine D.ok sc_lroom (fun vs H Q E h => ?_) (fun f cdv A outer s H vs Q E hr h => ?_)
  · obtain ⟨N, r, b, st, n, rfl, _⟩ := h; rfl
  · obtain ⟨N, r, b, st, n, rfl, b1, b2, fn, k⟩ := h
    refine ⟨_, pss_cons (ps_set (i := 4) sc_lroom.nd rfl (Or.inl rfl) (pe_op op_sub (pe_op op_sub (pe_callB call_abs (by rfl) B.abs b_abs (pa_cons (pv 3) pa_nil)) (pv 0)) pe_int))
      (pss_cons (ps_if (pt_cmpR op_lt (pv 4) pe_int (nomark _)) (pss_one (ps_ret pe_non)) pss_nil)
      (pss_cons (ps_set (i := 5) sc_lroom.nd rfl (Or.inl rfl) (pe_ifExp (pt_cmpR op_gt (pv 3) pe_int (nomark _)) pe_int (pe_un un_neg pe_int)))
      (pss_one (ps_ret (pe_tup (pa_cons (pe_tup (pa_cons (pv 2) (pa_cons (pv 5) (pa_cons (pe_op op_mod (i1 B (pv 4)) (pv 1)) pa_nil)))) (pa_cons (pe_op op_fdiv (pv 4) (pv 1)) pa_nil))))))), ?_⟩
    refine ⟨_, rfl, _, rfl, _, rfl, _, _, rfl, rfl, _, _, rfl, rfl, ?_⟩
    have kk : ∀ v H', Same H H' → Dt N H' (if ab n - r - 1 < 0 then .none else .tuple [.tuple [.int st, .int (if n > 0 then 1 else -1), .int ((ab n - r - 1) % b)], .int ((ab n - r - 1) / b)]) v → Q v H' := k
    refine ⟨_, rfl, _, _, rfl, rfl, _, rfl, ?_⟩
    refine itd (fun c => kk .non H (Same.refl _) ?_) (fun c => ?_)
    · have c' : ab n - r - 1 < 0 := c
      rw [if_pos c']; exact .non
    have c' : ¬ ab n - r - 1 < 0 := c
    rw [if_neg c'] at kk
    have go : ∀ z : Int, z = (if n > 0 then 1 else -1) → tRet (tTup (tCons (tTup (tCons (tVar 2) (tCons (tVar 5) (tCons (tOp (rI (fun _ j => 0 < j) fun i j => .int (i % j)) (tCB rInt1 (tCons (tVar 4) tNil)) (tVar 1)) tNil)))) (tCons (tOp (rI CDiv fun i j => .int (i / j)) (tVar 4) (tVar 1)) tNil)))
        { nx := fun _ H' => Q .non H', rt := Q } [some (.int r), some (.int b), some (.int st), some (.int n), some (.int (ab n - r - 1)), some (.int z)] H := fun z ez => by
      refine ⟨_, rfl, _, rfl, _, rfl, _, rfl, _, rfl, _, _, rfl, rfl, b1, sz_3, fun q nq => ?_⟩
      refine ⟨_, rfl, _, rfl, _, _, rfl, rfl, ⟨b1, b2⟩, sz_2, fun q2 nq2 => ?_⟩
      have s1 := same_new (o := .tup [.int st, .int z, .int ((ab n - r - 1) % b)]) nq
      refine kk _ _ (same_up s1 nq2) ?_
      rw [← ez]
      exact Dt.newT (fn _ (s1.free nq2)) nq2 (.cons (Dt.newT (fn _ nq) nq (.cons (.int _) (.cons (.int _) (.cons (.int _) .nil)))) (.cons (.int _) .nil))
    refine ⟨_, rfl, _, _, rfl, rfl, _, rfl, ?_⟩
    refine itd (fun c2 => go 1 ?_) (fun c2 => ⟨_, rfl, go (-1) ?_⟩)
    · have c3 : n > 0 := c2
      rw [if_pos c3]
    · have c3 : ¬ n > 0 := c2
      rw [if_neg c3]
def spShown : Sp := fun vs H Q _ => ∃ (hd : Addr) (N : Addr → Prop) (d : PyData) (v : V) (ds : List PyData), vs = [.ref hd, v] ∧ Hand hd H ∧ (∀ b, N b → Nh hd b) ∧ Fn N H ∧ Dt N H d v ∧ seqOf d = some ds ∧ ∀ d' y H', seqOf d' = some ds → Kh hd H H' → Dt N H' d' y → Q y H'
theorem sc_shown : FnScope ["_law_hand_here", "_law_things"] ["_law_hand_here", "_law_things"] (defScope (top 43)) := ⟨rfl, rfl, rfl, by decide +kernel, rfl, by decide +kernel, by decide +kernel⟩
theorem ok_shown (B : Bn mg) (D : Dn K mg "_law_shown" 43 ["_law_hand_here", "_law_things"]) (FD : Ok P w K mg base CX0 2 "_law_draw" ["_law_hand_here", "_law_many"] spDraw) : Ok P w K mg base CX0 3 "_law_shown" ["_law_hand_here", "_law_things"] spShown := by
  refine D.ok sc_shown (fun vs H Q E h => ?_) (fun f cdv A outer s H vs Q E hr h => ?_)
  · obtain ⟨hd, N, d, v, ds, rfl, _⟩ := h; rfl
  · obtain ⟨hd, N, d, v, ds, rfl, hH, sub, fn, hv, hs, k⟩ := h
    refine ⟨_, pss_cons (ps_if (pt_cmpR eqI (pc FD hr pass0 (pa_cons (pv 0) (pa_cons pe_int pa_nil))) pe_int (nomark _)) (pss_one (ps_ret (pe_callTy call_list_of (by rfl) B.list b_list (pa_cons (pv 1) pa_nil)))) pss_nil)
      (pss_one (ps_ret (pe_callTy call_tup (by rfl) B.tuple b_tuple (pa_cons (pv 1) pa_nil)))), ?_⟩
    refine ⟨_, rfl, hd, 2, rfl, hH, by decide, by decide, fun r H1 r0 r1 k1 => ⟨_, _, rfl, rfl, _, rfl, ?_⟩⟩
    have hv1 := hv.kp fun b o n e => k1.1 b o (sub b n) e
    have fn1 : ∀ {p : Addr}, H1 p = none → N p := fun {p} e => fn p (k1.free hH e)
    refine itd (fun _ => ?_) (fun _ => ?_)
    · refine ⟨_, rfl, ?_⟩
      cases hv1 with
      | lst n h r' =>
        cases hs
        exact ⟨_, _, rfl, .inl (SqL.of h), fun q nq => k (.list _) _ _ rfl (k1.same (same_new nq)) (Dt.newL (fn1 nq) nq r')⟩
      | tup n h r' =>
        cases hs
        exact ⟨_, _, rfl, .inr (SqT.of h), fun q nq => k (.list _) _ _ rfl (k1.same (same_new nq)) (Dt.newL (fn1 nq) nq r')⟩
      | _ => cases hs
    · refine ⟨_, rfl, ?_⟩
      cases hv1 with
      | lst n h r' =>
        cases hs
        exact ⟨_, _, rfl, .inl ⟨SqL.of h, fun q nq => k (.tuple _) _ _ rfl (k1.same (same_new nq)) (Dt.newT (fn1 nq) nq r')⟩⟩
      | tup n h r' =>
        cases hs
        exact ⟨_, _, rfl, .inr ⟨SqT.of h, k (.tuple _) _ _ rfl k1 (.tup n h r')⟩⟩
      | _ => cases hs
end
end K8
set_option maxRecDepth 100000
set_option maxHeartbeats 4000000
/-! Kt: a class made where the wish hangs on the slots; isinstance of a caught error that has a dict. -/
namespace K8
open PySem PySem.Spec PySem.Calls PyProof.Rows PySem.W
section
variable {prog : Program} {w : World} {A : Around} {E : Value → Shared → Prop} {K : Frag} {x D : Addr} {ox : Obj} {o : Option Obj}
/-- e.__class__ of an own error, with a dict or without: o is its dict's object -/
theorem class_ask {s : Shared} {Q : Option Value → Shared → Prop} (C : L2.ExcC K D) (hf : findObj K D o "__class__" = some (.bind (.builtin "getset_descriptor.__get__") (.builtin "object.__class__"))) (X : K.In s.heap) (I : InstAt s.heap x ox D o)
    (h : Q (some (.ref D)) { s with toks := s.toks + 1 }) : wpAny (model prog w) A (getAttr? (.ref x) "__class__") Q E s := by
  obtain ⟨hp, gn, dr, tk, os⟩ := s
  have looksTy := I.type (M := model prog w)
  have looksGa := looks_findIn (M := model prog w) X C.hg
  have looksGt := looks_findIn (M := model prog w) X C.hk
  have looksIt := looks_find (M := model prog w) X I hf
  have isExc : Looks (model prog w) hp (isInstance (.ref x) (.type "BaseException")) true := looksTy.andThen (looks_subIn X C.hs)
  have noPlain : (onTheHeap (Value.ref D) && Value.builtin "BaseException.__getattribute__" == Value.builtin "object.__getattribute__") = false := by rw [show (Value.builtin "BaseException.__getattribute__" == Value.builtin "object.__getattribute__") = false by decide +kernel]; rfl
  unfold getAttr? getAttrBy? getAttrBy
  refine wpAny_bind (wpAny_mkText (wpAny_bind (wpAny_attempt (wpAny_holding (wpAny_bind (looksTy.at (wpAny_bind (looksGa.at ?_))))))))
  refine wpAny_ite_false (by rw [noPlain]; rfl) ?_
  unfold getAttrByItsOwn hookBefore
  refine wpAny_bind ?_
  refine wpAny_ite_true (show decide (onTheHeap (Value.ref D) = true) = true from rfl) (looksGt.at (wpAny_bind (wpAny_attempt (wpAny_holding ?_))))
  unfold callGetattribute
  refine wpAny_ite_false (show decide ((false && onTheHeap (Value.builtin "BaseException.__getattribute__")) = true) = false from rfl) ?_
  unfold boundAndCalled
  rw [PySem.F.excAttr_ValueError.ga.bind (.ref x)]
  refine wpAny_bind (wpAny_pure (wpAny_call (codeAny_call_builtin PySem.F.excAttr_ValueError.ga.plain PySem.F.entry_bexc_ga ?_)))
  refine @check_slot (model prog w) _ _ ⟨hp, gn, dr, tk + 1, os⟩ "BaseException.__getattribute__" "BaseException" "__getattribute__" (.ref x) [.str "__class__" tk] [] _ (by decide +kernel) (by decide +kernel) isExc (PySem.F.args_bexc_ga (.ref x) (.str "__class__" tk)) ?_
  unfold Builtin.«object.__getattribute__»
  refine wpAny_bind (wpAny_of_eq (a := ((Value.ref x : Value), [Value.str "__class__" tk])) (by first | rfl | (simp only [slotArgs]; rfl)) (wpAny_bind (wpAny_pure (wpAny_bind (looksTy.at (wpAny_bind (looksIt.at ?_)))))))
  refine wpAny_bind (wpAny_holding (wpAny_call (class_get (s := ⟨hp, gn, dr, tk + 1, os⟩) (ox := ox) (od := o) X I C.hm (wpAny_pure ?_))))
  show wpAny _ _ (handedOut (.ref D)) _ _ _
  rw [handedOut_of (v := .ref D) rfl]
  first
    | exact wpAny_pure (wpAny_pure h)
    | exact wpAny_pure h
    | exact wpAny_pure (wpAny_bind (wpAny_pure (wpAny_pure h)))
/-- what isinstance asks of it -/
theorem kit_err (C : L2.ExcC K D) (hf : findObj K D o "__class__" = some (.bind (.builtin "getset_descriptor.__get__") (.builtin "object.__class__"))) : KitX K (.ref x) (.ref D) (fun h => InstAt h x ox D o) := by
  obtain ⟨cd, hc, _⟩ := any_some C.hd
  unfold clsIn at hc
  split at hc
  · rename_i c' d' cd' sl' ho
    refine { ty := fun _ _ _ I => I.type, it := fun _ _ X _ A' Q' E' s' k q => ?_, ne := fun h tp dd its n sl X htp => Bool.eq_false_iff.mpr fun q => ?_, ca := fun X I k => class_ask C hf X I k }
    · unfold isType loadHead
      exact wpAny_bind (wpAny_loadPart (k _ _ (X _ _ ho)) (wpAny_pure q))
    · obtain rfl : D = tp := Value.ref.inj (beq_iff_eq.mp q)
      exact nomatch (X _ _ ho).symm.trans htp
  · cases hc
end
end K8
namespace K8
open PySem PySem.Spec PyProof.Rows L2 L2H
section
variable {X : Cx} {CX : CXT} {k : Nat} {f C : Addr} {fd : FuncData} {ps : List Str} {sp : Sp} {E : L2.St → XK} {x : Str} {p pos : Pos} {e : Expr} {es : List Expr} {t : TA}
def tMakeS (C : Addr) (sp : Sp) (E : L2.St → XK) (t : TA) : TE := fun σ H Q => t σ H fun vs H1 => ∀ x dx, H1 x = none → H1 dx = none → dx ≠ x → sp (.ref x :: vs) (upd (upd H1 dx (.own x)) x (.ins C dx [])) (fun v H2 => v = .non ∧ Q (.ref x) H2) (E σ)
theorem pe_makeS (M : Mk X.K C f) (F : FnOk X.prog X.w X.K X.mg X.base CX k f fd ps sp) (hr : Room (k + 1) X.A) (hg : Gl X x) (hm : X.mg x = some (.ref C)) (hb : Binds X.K fd ps []) (hx : ∀ σ, PassesAt CX X σ (E σ))
    (ha : PA X (e :: es) t) (hdb : (x == ("__debug__" : Str)) = false := by decide) (he : starEach (e :: es) X.env = (false, eval e X.env) :: starEach es X.env := by rfl) (hpl : (backTo pos (starEach es X.env)).any (·.1) = false := by rfl) :
    PE X (.Call (.Name x p) (e :: es) [] pos) (tMakeS C sp E t) := by
  refine ⟨fun pins s σ H Q I h => ?_⟩
  refine wpAny_Call_Name_kw (ld_glob I hg hm ?_ hdb)
  refine PySem.W.callWith_K (h₀ := X.base) I.ok.mod.kin M.kp (thn (ha.run pos pins s σ H _ I h) fun us s1 ⟨vs, H1, I1, r, q⟩ => ⟨I1.kIn, ?_⟩) he hpl
  have hq := q (s1.heap.objs.size + 1) s1.heap.objs.size (I1.hok.fresh (Nat.le_succ _)) (I1.hok.fresh (Nat.le_refl _)) (Nat.ne_of_lt (Nat.lt_succ_self _))
  have I2 := Inv.made (C := C) I1
  have r2 : Vals (V.ref (s1.heap.objs.size + 1) :: vs) (Value.ref (s1.heap.objs.size + 1) :: us) := .cons rfl r
  have hl : ((Value.ref (s1.heap.objs.size + 1) :: us) ++ []).length = ps.length := by
    have e := r2.length
    rw [F.len _ _ _ _ hq] at e
    rw [List.append_nil]
    exact e.symm
  have hbb := hb _ (Value.ref (s1.heap.objs.size + 1) :: us) I2.kIn hl
  rw [List.append_nil] at hbb
  refine wpAny_call (make_map (f := f) I1.kIn M.makes M.init (beq_iff_eq.mp M.fn) (codeAny_mono (F.run _ X.stack _ _ ⟨Value.ref (s1.heap.objs.size + 1) :: us, []⟩ (Value.ref (s1.heap.objs.size + 1) :: us) _ _ (E σ) (hr.make C us [])
    (I2.env0.make C us []) hbb r2 hq) fun r s' hq' => ?_))
  cases r with
  | error e => exact hx σ pins _ _ e s' I2 hq'
  | ok fl =>
    cases fl with
    | ret u =>
      obtain ⟨v, H', I3, rv, ev, q3⟩ := I2.after hq'
      subst ev
      exact ⟨rv, ⟨V.ref (s1.heap.objs.size + 1), H', I3, rfl, q3⟩⟩
    | next => exact False.elim hq'
    | brk => exact False.elim hq'
    | cont => exact False.elim hq'
end
/-- isinstance(e, c), e the caught error, of the class at D, its dict at dd -/
def rIsD2 (K : PySem.W.Frag) (D a : Addr) (cls : Value) (d : Option Addr) : List V → Hp → VK → Prop := fun xs H Q => ∃ (c : V) (cv : Value) (b : Bool) (dd : Addr) (fs : List (Str × V)), xs = [.ref a, c] ∧ cls = .ref D ∧ d = some dd ∧ H dd = some (.xd fs) ∧ (∀ u, RelV c u → u = cv) ∧ PySem.W.kitOne K (.ref D) cv = some b ∧ Q (.bl b) H
theorem call_isD2 {X : Cx} {a D : Addr} {oe : Obj} {cls : Value} {d : Option Addr} {pn : List (Addr × Obj)} (C : ExcC X.K D) (hz : Zc cls d oe) (hf : ∃ vs, oe.data = .fields vs) : CallR (X.suite a ((a, oe) :: pn)) (.builtin "isinstance") (rIsD2 X.K D a cls d) := by
  intro pins s σ H xs us Q I r h
  obtain ⟨c, cv, b, dd, fs, rfl, rfl, rfl, hdd, hcv, e, q⟩ := h
  cases r with
  | cons rx rr =>
    cases rr with
    | cons rt rr =>
      cases rr
      cases rx
      have ec := hcv _ rt
      subst ec
      obtain ⟨hget, _⟩ := I.pin (a, oe) (List.mem_append.mpr (.inl List.mem_cons_self))
      obtain ⟨vs, hv⟩ := hf
      have hx : ObjOk X.prog X.w H s.heap dd (.xd fs) := I.hok dd _ hdd
      obtain ⟨mA, hns, hr⟩ := hx
      obtain ⟨od, ho, hl⟩ := lookIn_ns hns
      have J : PySem.W.InstAt s.heap a oe D (some od) := ⟨hget, hz.1, by unfold PySem.W.notCls; rw [hv] <;> rfl, by rw [hz.2]; exact ho⟩
      exact PySem.W.kia_one (kit_err C (PySem.W.findObj_data (by obtain ⟨cd, hc, _⟩ := PySem.W.any_some C.hd; rw [hc]; rfl) C.ha C.hn C.ht)) I.kIn J e (fun z => nomatch z) fun tk => ⟨.bl b, H, I.kept (t' := tk) fun _ _ z => z, rfl, q⟩
/-- .. that has no dict -/
def rIsD0 (K : PySem.W.Frag) (D a : Addr) (cls : Value) (d : Option Addr) : List V → Hp → VK → Prop := fun xs H Q => cls = .ref D ∧ d = none ∧ rIsE K D a xs H Q
theorem call_isD0 {X : Cx} {a D : Addr} {oe : Obj} {cls : Value} {d : Option Addr} {pn : List (Addr × Obj)} (C : ExcC X.K D) (hz : Zc cls d oe) (hf : ∃ vs, oe.data = .fields vs) : CallR (X.suite a ((a, oe) :: pn)) (.builtin "isinstance") (rIsD0 X.K D a cls d) := by
  intro pins s σ H xs us Q I r h
  obtain ⟨rfl, rfl, h⟩ := h
  exact call_isE C hz hf pins s σ H xs us Q I r h
end K8
set_option maxRecDepth 100000
set_option maxHeartbeats 1000000
/-! Q6: told, move_told. -/
namespace K8
open PySem PySem.Spec PyProof.Rows L2 L2H

def goodD (n : Int) (ss : List (Int × Int)) (as : List Ar) : PyData := .list [.str "good", .int n, .tuple (ss.map encSt), .tuple (as.map encAr)]
def badD (wh : Str) (at_ : Int) : PyData := .list [.str "bad", .str wh, .int at_, .bool true]
def goodM (m : Mv) : PyData := .list [.str "good", m.enc]
def badM : PyData := .list [.str "bad", .bool false]
/-- the errors' classes, as isinstance and the clauses ask -/
structure Errs (K : PySem.W.Frag) (mg : Str → Option Value) (BK CM CB : Addr) : Prop where
  mgK : mg "BookError" = some (.ref BK)
  mgM : mg "BadMove" = some (.ref CM)
  mgB : mg "BadMachine" = some (.ref CB)
  xB : XfC K CB
  noW : PySem.W.findIn K (.ref CB) "what" = some none
  noA : PySem.W.findIn K (.ref CB) "at" = some none
  eB : ExcC K CB
  eM : ExcC K CM
  bk : PySem.W.kitOne K (.ref CB) (.ref BK) = some true
  mb : PySem.W.kitOne K (.ref CM) (.ref CB) = some false
section
variable {P : Program} {w : World} {K : PySem.W.Frag} {mg : Str → Option Value} {base : Heap}
theorem no_takes {X : Cx} : L2.Takes X (fun _ _ _ _ => False) := fun u s' ⟨a, B, sI, pins, σ, H, cls, d, e, I, nb, up, sky, na, os, ag, w⟩ => w.elim
def spTold : Sp := fun vs H Q _ => ∃ (N : Addr → Prop) (dS dA dB : PyData) (vS vA vB : V), vs = [vS, vA, vB] ∧ Dt N H dS vS ∧ Dt N H dA vA ∧ Dt N H dB vB ∧ Fn N H ∧
  (∀ n ss as, okMach dS dA dB n ss as → ∀ y H', Same H H' → Dt N H' (goodD n ss as) y → Q y H') ∧ (∀ wh at_, badMach dS dA dB wh at_ → ∀ y H', Same H H' → Dt N H' (badD wh at_) y → Q y H')
theorem sc_told : FnScope ["_law_stations", "_law_starts", "_law_arrows", "_law_machine_here", "raised"] ["_law_stations", "_law_starts", "_law_arrows"] (defScope (top 45)) := ⟨rfl, rfl, rfl, by decide +kernel, rfl, by decide +kernel, by decide +kernel⟩
theorem fs_what {wh : Str} {at_ : Int} : (fsM wh at_).lookup ("what" : Str) = some (.str wh) := by
  show List.lookup (Str.ofString "what") [(Str.ofString "at", V.int at_), (Str.ofString "what", V.str wh)] = _
  rw [List.lookup_cons, show ((Str.ofString "what") == (Str.ofString "at")) = false by decide +kernel]
  rfl
theorem fs_at {wh : Str} {at_ : Int} : (fsM wh at_).lookup ("at" : Str) = some (.int at_) := rfl
theorem ok_told {CN CL CT CM CB BK g fI : Addr} {fdI : FuncData} (B : Bn mg) (D : Dn K mg "_law_told" 45 ["_law_stations", "_law_starts", "_law_arrows"]) (M : MachQ K mg CN g) (ER : Errs K mg BK CM CB) (MM : Exm K CL CT CM CB) (MK : Mk K CN fI)
    (FI : FnOk P w K mg base (L2.CX P w) 6 fI fdI ["self", "stations", "starts", "arrows"] (spInit CN CB)) (bI : Binds K fdI ["self", "stations", "starts", "arrows"] []) : Ok P w K mg base CX0 8 "_law_told" ["_law_stations", "_law_starts", "_law_arrows"] spTold := by
  refine D.ok sc_told (fun vs H Q E h => ?_) (fun f cdv A outer s H vs Q E hr h => ?_)
  · obtain ⟨N, dS, dA, dB, vS, vA, vB, rfl, _⟩ := h; rfl
  · obtain ⟨N, dS, dA, dB, vS, vA, vB, rfl, hS, hA, hB, fn, kg, kb⟩ := h
    refine ⟨_, pss_cons (L2.ps_try_as (i := 4) (c := .ref CB) (Wout := fun _ _ _ _ => False) (tb := fun W => tAsg (tMakeS CN (spInit CN CB) (WE W) (tCons (tVar 0) (tCons (tVar 1) (tCons (tVar 2) tNil)))) (gName 3))
        (ts := fun a cls d => tRet (tLst (tCons (tC (.str "bad")) (tCons (tXf a cls d CB "what" (tVar 4)) (tCons (tXf a cls d CB "at" (tVar 4)) (tCons (tCB (rIsD2 K CB a cls d) (tCons (tVar 4) (tCons (tC (.ref BK)) tNil))) tNil))))))
        rfl rfl sc_told.nd rfl rfl ⟨rfl, by decide, .inl ER.mgB⟩ no_takes
        (fun W pn xe tk hp => pss_one (ps_set (i := 3) sc_told.nd rfl (Or.inl rfl) (pe_makeS MK FI (hr.mono (by decide)) (by rfl) M.mgC bI (fun σ => L2.passAt tk σ) (pa_cons (pv 0) (pa_cons (pv 1) (pa_cons (pv 2) pa_nil))))))
        (fun a oe cls d pn hz hf => pss_one (ps_ret (pe_lst (pa_cons pe_str (pa_cons (pe_xf ER.xB ER.noW hz hf (pv 4)) (pa_cons (pe_xf ER.xB ER.noA hz hf (pv 4)) (pa_cons (pe_callB (call_isD2 ER.eB hz hf) (by rfl) B.isi b_isi (pa_cons (pv 4) (pa_cons (pe_glob (v := V.ref BK) (by rfl) ER.mgK rfl) pa_nil))) pa_nil))))))))
      (pss_one (ps_ret (pe_lst (pa_cons pe_str (pa_cons (pe_fld (pv 3) rfl) (pa_cons (pe_fld (pv 3) rfl) (pa_cons (pe_fld (pv 3) rfl) pa_nil))))))), ?_⟩
    have sz4 : 4 ≤ sizeLine := szl_100 (by decide)
    refine ⟨_, rfl, _, rfl, _, rfl, fun p dx np nd ne => ?_⟩
    have sH : Same H (upd H dx (.own p)) := same_new nd
    have hp : (upd (upd H dx (.own p)) p (.ins CN dx [])) p = some (.ins CN dx []) := upd_same
    have nd1 : (upd H dx (.own p)) p = none := by rw [upd_ne (Ne.symm ne)]; exact np
    have s1 : Same H (upd (upd H dx (.own p)) p (.ins CN dx [])) := same_up sH nd1
    have back : ∀ {H'}, Kq p (upd (upd H dx (.own p)) p (.ins CN dx [])) H' → Same H H' := fun {H'} k b o e => k.1 b o (fun z => by rw [z, np] at e; cases e) (s1 b o e)
    refine ⟨N, p, dx, dS, dA, dB, vS, vA, vB, rfl, hp, hS.same s1, hA.same s1, hB.same s1, fn.same s1, fun n ss as hok H' v1 v2 lv dx' kq hp' h1 h2 => ?_, fun wh at_ hb dd H' kq ndd hdd => ?_⟩
    · have sB := back kq
      refine ⟨rfl, ?_⟩
      refine ⟨_, rfl, p, CN, dx', _, _, rfl, hp', M.cl, M.n1, l6_sn, _, rfl, p, CN, dx', _, _, rfl, hp', M.cl, M.n2, l6_ss, _, rfl, p, CN, dx', _, _, rfl, hp', M.cl, M.n3, l6_ar, sz4, fun q nq => ?_⟩
      exact kg n ss as hok _ _ (same_up sB nq) (Dt.newL (fn _ (sB.free nq)) nq (.cons (.str _) (.cons (.int _) (.cons (h1.sub Nx.sub) (.cons (h2.sub Nx.sub) .nil)))))
    · have sB := back kq
      refine ⟨true, MM.BB, fun _ a na => ?_, fun e => Bool.noConfusion e⟩
      refine ⟨_, rfl, rfl, rfl, dd, _, _, rfl, hdd, fs_what, _, rfl, rfl, rfl, dd, _, _, rfl, hdd, fs_at, _, rfl, .ref BK, .ref BK, true, dd, _, rfl, rfl, rfl, hdd, fun u r => r, ER.bk, sz4, fun q nq => ?_⟩
      exact kb wh at_ hb _ _ (same_up sB nq) (Dt.newL (fn _ (sB.free nq)) nq (.cons (.str _) (.cons (.str _) (.cons (.int _) (.cons (.bl _) .nil)))))
def spMTold : Sp := fun vs H Q _ => ∃ (N : Addr → Prop) (d : PyData) (v : V), vs = [v] ∧ Dt N H d v ∧ Fn N H ∧ (∀ m, chkM d = some m → ∀ y H', Same H H' → Dt N H' (goodM m) y → Q y H') ∧ (chkM d = none → ∀ y H', Same H H' → Dt N H' badM y → Q y H')
theorem sc_mtold : FnScope ["_law_move_here", "_law_told_here", "raised"] ["_law_move_here"] (defScope (top 46)) := ⟨rfl, rfl, rfl, by decide +kernel, rfl, by decide +kernel, by decide +kernel⟩
theorem ok_mtold {CL CT CM CB BK : Addr} (B : Bn mg) (D : Dn K mg "_law_move_told" 46 ["_law_move_here"]) (ER : Errs K mg BK CM CB) (MM : Exm K CL CT CM CB) (FM : Ok P w K mg base (CXk 1 P w) 4 "check_move" ["move"] (spChk chkM Mv.enc CM)) : Ok P w K mg base CX0 5 "_law_move_told" ["_law_move_here"] spMTold := by
  refine D.ok sc_mtold (fun vs H Q E h => ?_) (fun f cdv A outer s H vs Q E hr h => ?_)
  · obtain ⟨N, d, v, rfl, _⟩ := h; rfl
  · obtain ⟨N, d, v, rfl, hd, fn, kg, kb⟩ := h
    refine ⟨_, pss_cons (L2.ps_try_as (i := 2) (c := .ref CM) (Wout := fun _ _ _ _ => False) (tb := fun W => tAsg (tCallS (spChk chkM Mv.enc CM) (WE W) (tCons (tVar 0) tNil)) (gName 1))
        (ts := fun a cls d => tRet (tLst (tCons (tC (.str "bad")) (tCons (tCB (rIsD0 K CM a cls d) (tCons (tVar 2) (tCons (tC (.ref CB)) tNil))) tNil))))
        rfl rfl sc_mtold.nd rfl rfl ⟨rfl, by decide, .inl ER.mgM⟩ no_takes
        (fun W pn xe tk hp => pss_one (ps_set (i := 1) sc_mtold.nd rfl (Or.inl rfl) (pcS FM hr (fun σ pins H s e s' I c => L2.passAt tk σ pins H s e s' I c.l) (pa_cons (pv 0) pa_nil))))
        (fun a oe cls d pn hz hf => pss_one (ps_ret (pe_lst (pa_cons pe_str (pa_cons (pe_callB (call_isD0 ER.eM hz hf) (by rfl) B.isi b_isi (pa_cons (pv 2) (pa_cons (pe_glob (v := V.ref CB) (by rfl) ER.mgB rfl) pa_nil))) pa_nil))))))
      (pss_one (ps_ret (pe_lst (pa_cons pe_str (pa_cons (pv 1) pa_nil))))), ?_⟩
    refine ⟨_, rfl, N, d, v, rfl, hd, fn, fun l hl p H' s1 hp => ?_, fun hn H' s1 => ?_⟩
    · exact ⟨_, rfl, sz_2, fun q nq => kg l hl _ _ (same_up s1 nq) (Dt.newL (fn _ (s1.free nq)) nq (.cons (.str _) (.cons hp .nil)))⟩
    · refine ⟨true, MM.MM, fun _ a na => ?_, fun e => Bool.noConfusion e⟩
      refine ⟨_, rfl, rfl, rfl, .ref CB, .ref CB, false, rfl, fun u r => r, ER.mb, sz_2, fun q nq => ?_⟩
      exact kb hn _ _ (same_up s1 nq) (Dt.newL (fn _ (s1.free nq)) nq (.cons (.str _) (.cons (.bl _) .nil)))
end
end K8
set_option maxRecDepth 100000
set_option maxHeartbeats 1000000
/-! Kv: lists of data: cut, joined, repeated, copied. -/
namespace K8
open PySem PySem.Spec PyProof.Rows L2 L2H
/-- a new datum D -/
def NewD (N : Addr → Prop) (H : Hp) (D : PyData) (Q : VK) : Prop := Fn N H ∧ ∀ y H', Same H H' → Dt N H' D y → Q y H'
theorem NewD.lst {N : Addr → Prop} {H : Hp} {ds : List PyData} {Q : VK} (h : NewD N H (.list ds) Q) {p : Addr} {xs : List V} (np : H p = none) (r : DtL N H ds xs) : Q (.ref p) (upd H p (.lst xs)) := h.2 _ _ (same_new np) (Dt.newL (h.1 p np) np r)
theorem NewD.tup {N : Addr → Prop} {H : Hp} {ds : List PyData} {Q : VK} (h : NewD N H (.tuple ds) Q) {p : Addr} {xs : List V} (np : H p = none) (r : DtL N H ds xs) : Q (.ref p) (upd H p (.tup xs)) := h.2 _ _ (same_new np) (Dt.newT (h.1 p np) np r)
theorem DtL.rep {N : Addr → Prop} {H : Hp} {ds : List PyData} {xs : List V} (h : DtL N H ds xs) : ∀ n : Nat, DtL N H (List.replicate n ds).flatten (List.replicate n xs).flatten
  | 0 => .nil
  | n + 1 => by rw [List.replicate_succ, List.replicate_succ, List.flatten_cons, List.flatten_cons]; exact DtL.app h (DtL.rep h n)
theorem cut_drop {xs : List V} {j : Nat} (h : j ≤ xs.length) : cutV xs (some (j : Int)) none = xs.drop j := by
  unfold cutV
  rw [HT.sIx_nat, HT.sIx_none, Nat.min_eq_left h]
  exact List.take_of_length_le (by rw [List.length_drop]; exact Nat.le_refl _)
theorem cut_take {xs : List V} {j : Nat} (h : j ≤ xs.length) : cutV xs none (some (j : Int)) = xs.take j := by
  unfold cutV
  rw [HT.sIx_nat, HT.sIx_none, Nat.min_eq_left h, List.drop_zero, Nat.sub_zero]
section
variable {X : Cx}
def rDrop : V → Option Int → Option Int → Hp → VK → Prop := fun x lo hi H Q => ∃ (N : Addr → Prop) (ds : List PyData) (j : Nat), lo = some (j : Int) ∧ hi = none ∧ Dt N H (.list ds) x ∧ j ≤ ds.length ∧ NewD N H (.list (ds.drop j)) Q
theorem sl_drop : SlR X rDrop := fun pins s σ H x v vl vu lo hi sl Q I rx hs pl pu ⟨N, ds, j, e1, e2, h, hj, q⟩ => by
  cases h with
  | lst n h r =>
    refine sl_list pins s σ H _ v vl vu lo hi sl Q I rx hs pl pu ⟨_, _, rfl, SqL.of h, fun p np => ?_⟩
    have hl := r.len
    subst e1 e2
    rw [cut_drop (by omega)]
    exact q.lst np (r.drop j)
def rTake : V → Option Int → Option Int → Hp → VK → Prop := fun x lo hi H Q => ∃ (N : Addr → Prop) (ds : List PyData) (j : Nat), lo = none ∧ hi = some (j : Int) ∧ Dt N H (.list ds) x ∧ j ≤ ds.length ∧ NewD N H (.list (ds.take j)) Q
theorem sl_take : SlR X rTake := fun pins s σ H x v vl vu lo hi sl Q I rx hs pl pu ⟨N, ds, j, e1, e2, h, hj, q⟩ => by
  cases h with
  | lst n h r =>
    refine sl_list pins s σ H _ v vl vu lo hi sl Q I rx hs pl pu ⟨_, _, rfl, SqL.of h, fun p np => ?_⟩
    have hl := r.len
    subst e1 e2
    rw [cut_take (by omega)]
    exact q.lst np (r.take j)
def rCatD : R2 := fun x y H Q => ∃ (N : Addr → Prop) (ds es : List PyData), Dt N H (.list ds) x ∧ Dt N H (.list es) y ∧ ds.length + es.length ≤ 8000 ∧ NewD N H (.list (ds ++ es)) Q
theorem op_catD : OpR X (binaryOp .Add) rCatD := fun pins s σ H x y v u Q I rx ry ⟨N, ds, es, h1, h2, hl, q⟩ => by
  cases h1 with
  | lst n1 g1 r1 =>
    cases h2 with
    | lst n2 g2 r2 =>
      have a1 := r1.len
      have a2 := r2.len
      exact op_cat pins s σ H _ _ v u Q I rx ry ⟨_, _, _, _, rfl, rfl, g1, g2, by rw [sizeLine_eq]; omega, fun p np => q.lst np (r1.app r2)⟩
def rRepD : R2 := fun x y H Q => ∃ (N : Addr → Prop) (d : PyData) (k : Nat), Dt N H (.list [d]) x ∧ y = .int (k : Int) ∧ k ≤ 8000 ∧ NewD N H (.list (List.replicate k d)) Q
theorem op_repD : OpR X (binaryOp .Mult) rRepD := fun pins s σ H x y v u Q I rx ry ⟨N, d, k, h1, ey, hl, q⟩ => by
  cases h1 with
  | lst n1 g1 r1 =>
    have a1 := r1.len
    refine op_rep pins s σ H _ _ v u Q I rx ry ⟨_, _, _, rfl, ey, g1, by omega, by omega, ?_, fun p np => ?_⟩
    · rw [Int.toNat_natCast, ← a1, sizeLine_eq]; show 1 * k ≤ _; omega
    · rw [Int.toNat_natCast]
      refine q.lst np ?_
      have e : (List.replicate k [d]).flatten = List.replicate k d := by
        clear q hl ey
        induction k with
        | zero => rfl
        | succ n ih => rw [List.replicate_succ, List.flatten_cons, ih, List.replicate_succ]; rfl
      have := r1.rep k
      rw [e] at this
      exact this
def rListD : List V → Hp → VK → Prop := fun xs H Q => ∃ (N : Addr → Prop) (d : PyData) (v : V) (ds : List PyData), xs = [v] ∧ Dt N H d v ∧ seqOf d = some ds ∧ NewD N H (.list ds) Q
theorem call_listD : CallR X (.type "list") rListD := fun pins s σ H xs us Q I r ⟨N, d, v, ds, e, h, hs, q⟩ => by
  cases h with
  | lst n h r' => cases hs; exact call_list_of pins s σ H xs us Q I r ⟨_, _, e, .inl (SqL.of h), fun p np => q.lst np r'⟩
  | tup n h r' => cases hs; exact call_list_of pins s σ H xs us Q I r ⟨_, _, e, .inr (SqT.of h), fun p np => q.lst np r'⟩
  | _ => cases hs
def rTupD : List V → Hp → VK → Prop := fun xs H Q => ∃ (N : Addr → Prop) (d : PyData) (v : V) (ds : List PyData), xs = [v] ∧ Dt N H d v ∧ seqOf d = some ds ∧ NewD N H (.tuple ds) Q
theorem call_tupD : CallR X (.type "tuple") rTupD := fun pins s σ H xs us Q I r ⟨N, d, v, ds, e, h, hs, q⟩ => by
  cases h with
  | lst n h r' => cases hs; exact call_tuple_of pins s σ H xs us Q I r ⟨_, _, e, .inl ⟨SqL.of h, fun p np => q.tup np r'⟩⟩
  | tup n h r' => cases hs; exact call_tuple_of pins s σ H xs us Q I r ⟨_, _, e, .inr ⟨SqT.of h, q.2 _ _ (Same.refl _) (.tup n h r')⟩⟩
  | _ => cases hs
end
end K8
set_option maxRecDepth 100000
set_option maxHeartbeats 2000000
/-! Q7: odd things. -/
namespace K8
open PySem PySem.Spec PyProof.Rows L2 L2H
theorem nn {α : Type} {o : Option α} (h : o.isNone = true) : o = none := Option.isNone_iff_eq_none.mp h
def Wd (w : Str) : Prop := w = "deed" ∨ w = "so" ∨ w = "not"
theorem len_w {p : PyData → Prop} {X : List PyData} {ds : List PyData} (h : ∃ d r, ds = d :: r ∧ p d ∧ r = X) (hx : X.length ≤ 90 := by decide) : ds.length ≤ 100 := by
  obtain ⟨d, r, rfl, _, rfl⟩ := h; rw [List.length_cons]; omega
theorem len_2 {p q : PyData → Prop} {ds : List PyData} (h : ∃ d r, ds = d :: r ∧ p d ∧ ∃ d r2, r = d :: r2 ∧ q d ∧ r2 = []) : ds.length ≤ 100 := by
  obtain ⟨d, r, rfl, _, d2, r2, rfl, _, rfl⟩ := h; show 2 ≤ 100; decide
theorem len_3 {p q o : PyData → Prop} {ds : List PyData} (h : ∃ d r, ds = d :: r ∧ p d ∧ ∃ d r2, r = d :: r2 ∧ q d ∧ ∃ d r3, r2 = d :: r3 ∧ o d ∧ r3 = []) : ds.length ≤ 100 := by
  obtain ⟨d, r, rfl, _, d2, r2, rfl, _, d3, r3, rfl, _, rfl⟩ := h; show 3 ≤ 100; decide
theorem wordD {X : List PyData} (h : ∀ w, Wd w → chkM (.tuple (.str w :: X)) = none) (d : PyData) (e : ∃ ds, d = .tuple ds ∧ ∃ d1 r, ds = d1 :: r ∧ (∃ w, Wd w ∧ d1 = .str w) ∧ r = X) : chkM d = none := by
  obtain ⟨ds, rfl, d1, r, rfl, ⟨w, hw, rfl⟩, rfl⟩ := e
  exact h w hw
section
variable {P : Program} {w : World} {K : PySem.W.Frag} {mg : Str → Option Value} {base : Heap}
def spOdd (p : PyData → Prop) : Sp := fun vs H Q _ => ∃ (hd : Addr), vs = [.ref hd] ∧ Hand hd H ∧ ∀ d y H', p d → Kh hd H H' → Dt (Nh hd) H' d y → Q y H'
theorem sc_oddm : FnScope ["_law_hand_here", "_law_word"] ["_law_hand_here"] (defScope (top 49)) := ⟨rfl, rfl, rfl, by decide +kernel, rfl, by decide +kernel, by decide +kernel⟩
theorem ok_oddm (D : Dn K mg "_law_odd_move" 49 ["_law_hand_here"]) (FP : Ok P w K mg base CX0 3 "_law_pick" ["_law_hand_here", "_law_things"] spPick) : Ok P w K mg base CX0 4 "_law_odd_move" ["_law_hand_here"] (spOdd fun d => chkM d = none) := by
  refine D.ok sc_oddm (fun vs H Q E h => ?_) (fun f cdv A outer s H vs Q E hr h => ?_)
  · obtain ⟨hd, rfl, _⟩ := h; rfl
  · obtain ⟨hd, rfl, hH, k⟩ := h
    have gdw : ∀ {p : Pos}, PE (cxOf CX0 P w K mg base ["_law_hand_here", "_law_word"] "_law_odd_move" (defScope (top 49)) f cdv A outer s H E).nox (.Name "_law_word" p) (gD hd (fun σ => ∃ w, Wd w ∧ σ[1]? = some (some (V.str w))) fun d => ∃ w, Wd w ∧ d = .str w) :=
      fun {p} => gd_var 1 (pv 1) (fun σ ⟨w, hw, e⟩ => ⟨_, _, e, ⟨w, hw, rfl⟩, fun N H => .str w⟩)
    refine ⟨_, pss_cons (ps_set (i := 1) sc_oddm.nd rfl (Or.inl rfl) (pc FP hr pass0 (pa_cons (pv 0) (pa_cons (gd_lst (hd := hd) (S := fun _ => True) (ps := fun l => (∀ d ∈ l, ∃ w, Wd w ∧ d = .str w) ∧ l.length = 3)
        (gds_all (gd_imp gd_str fun d e => ⟨_, Or.inl rfl, e⟩) (gds_all (gd_imp gd_str fun d e => ⟨_, Or.inr (Or.inl rfl), e⟩) (gds_all (gd_imp gd_str fun d e => ⟨_, Or.inr (Or.inr rfl), e⟩) gds_all0))) (fun ds h => by rw [h.2]; decide)) pa_nil))))
      (pss_one (ps_ret (pc FP hr pass0 (pa_cons (pv 0) (pa_cons (gd_lst (hd := hd) (S := fun σ => ∃ w, Wd w ∧ σ[1]? = some (some (V.str w))) (ps := fun l => (∀ d ∈ l, chkM d = none) ∧ l.length = 17) (gds_all (gd_imp (gd_tup (gds_cons gdw gds_nil) (fun ds h => len_w h)) (wordD (fun w hw => by rcases hw with rfl | rfl | rfl <;> exact nn (by decide +kernel))))
        (gds_all (gd_imp (gd_tupE (gds_e gd_str (gds_e gd_int gds_nil))) (fun d e => by rw [e]; exact nn (by decide +kernel)))
        (gds_all (gd_imp (gd_tupE (gds_e gd_str (gds_e (gd_tupE (gds_e gd_str (gds_e gd_int gds_nil))) gds_nil))) (fun d e => by rw [e]; exact nn (by decide +kernel)))
        (gds_all (gd_imp (gd_tupE (gds_e gd_str (gds_e (gd_tupE (gds_e gd_str (gds_e gd_int gds_nil))) gds_nil))) (fun d e => by rw [e]; exact nn (by decide +kernel)))
        (gds_all (gd_imp (gd_tupE (gds_e gd_str (gds_e (gd_tupE (gds_e gd_str gds_nil)) gds_nil))) (fun d e => by rw [e]; exact nn (by decide +kernel)))
        (gds_all (gd_imp gd_non (fun d e => by rw [e]; exact nn (by decide +kernel)))
        (gds_all (gd_imp (gd_tupE gds_nil) (fun d e => by rw [e]; exact nn (by decide +kernel)))
        (gds_all (gd_imp (gd_tup (gds_cons gdw (gds_e gd_non gds_nil)) (fun ds h => len_w h)) (wordD (fun w hw => by rcases hw with rfl | rfl | rfl <;> exact nn (by decide +kernel))))
        (gds_all (gd_imp (gd_tup (gds_cons gdw (gds_e (gd_tupE (gds_e gd_str (gds_e gd_bl gds_nil))) gds_nil)) (fun ds h => len_w h)) (wordD (fun w hw => by rcases hw with rfl | rfl | rfl <;> exact nn (by decide +kernel))))
        (gds_all (gd_imp (gd_tup (gds_cons gdw (gds_e (gd_tupE (gds_e gd_str (gds_e gd_int gds_nil))) gds_nil)) (fun ds h => len_w h)) (wordD (fun w hw => by rcases hw with rfl | rfl | rfl <;> exact nn (by decide +kernel))))
        (gds_all (gd_imp (gd_tupE (gds_e gd_str (gds_e (gd_tupE (gds_e gd_str (gds_e gd_int gds_nil))) gds_nil))) (fun d e => by rw [e]; exact nn (by decide +kernel)))
        (gds_all (gd_imp gd_str (fun d e => by rw [e]; exact nn (by decide +kernel)))
        (gds_all (gd_imp (gd_tupE (gds_e gd_str (gds_e gd_int gds_nil))) (fun d e => by rw [e]; exact nn (by decide +kernel)))
        (gds_all (gd_imp (gd_tup (gds_cons gdw (gds_e (gd_tupE (gds_e gd_str (gds_e gd_int (gds_e gd_int gds_nil)))) gds_nil)) (fun ds h => len_w h)) (wordD (fun w hw => by rcases hw with rfl | rfl | rfl <;> exact nn (by decide +kernel))))
        (gds_all (gd_imp (gd_tupE (gds_e gd_str (gds_e (gd_tupE (gds_e gd_str (gds_e gd_int gds_nil))) (gds_e gd_int gds_nil)))) (fun d e => by rw [e]; exact nn (by decide +kernel)))
        (gds_all (gd_imp (gd_lstE (gds_e gd_int gds_nil)) (fun d e => by rw [e]; exact nn (by decide +kernel)))
        (gds_all (gd_imp gd_int (fun d e => by rw [e]; exact nn (by decide +kernel)))
        gds_all0))))))))))))))))) (fun ds h => by rw [h.2]; decide)) pa_nil))))), ?_⟩
    refine ⟨_, rfl, trivial, hH, fun d v H1 ⟨ds, e1, hp, hl⟩ k1 hv => ?_⟩
    subst e1
    refine ⟨hd, _, v, ds, rfl, k1.2, hv, rfl, by omega, by omega, fun e y H2 he k2 hy => ?_⟩
    obtain ⟨w, hw, rfl⟩ := hp e he
    cases hy
    refine ⟨_, rfl, ⟨w, hw, rfl⟩, k2.2, fun d v H3 ⟨ds, e1, hp, hl⟩ k3 hv => ?_⟩
    subst e1
    exact ⟨hd, _, v, ds, rfl, k3.2, hv, rfl, by omega, by omega, fun e y H4 he k4 hy => k e y H4 (hp e he) (((k1.trans k2).trans k3).trans k4) hy⟩
/-! ### starts -/
theorem w_n (n : Int) : wIn (.int n) 0 (n - 1) = false := by
  show (decide (0 ≤ n) && decide (n ≤ n - 1)) = false
  rw [decide_eq_false (show ¬ n ≤ n - 1 by omega), Bool.and_false]
theorem w_m1 {n : Int} : wIn (.int (-1)) 0 (n - 1) = false := by
  show (decide ((0 : Int) ≤ -1) && decide ((-1 : Int) ≤ n - 1)) = false
  rw [decide_eq_false (show ¬ (0 : Int) ≤ -1 by omega), Bool.false_and]
theorem w_far {f : Int} (h : 1000 < f) : wIn (.int f) (-1000) 1000 = false := by
  show (decide (-1000 ≤ f) && decide (f ≤ 1000)) = false
  rw [decide_eq_false (show ¬ f ≤ 1000 by omega), Bool.and_false]
theorem w_nfar {f : Int} (h : 1000 < f) : wIn (.int (0 - f)) (-1000) 1000 = false := by
  show (decide (-1000 ≤ 0 - f) && decide (0 - f ≤ 1000)) = false
  rw [decide_eq_false (show ¬ -1000 ≤ 0 - f by omega), Bool.false_and]
theorem st2 {n : Int} {a b : PyData} (h : wIn a 0 (n - 1) = false ∨ wIn b (-1000) 1000 = false) : chkSt n (.tuple [a, b]) = none :=
  if_neg fun z => by
    rcases h with h | h
    · rw [h] at z; cases z.1
    · rw [h] at z; cases z.2
theorem ar3 {n : Int} {a m b : PyData} (h : wIn a 0 (n - 1) = false ∨ wIn b 0 (n - 1) = false ∨ chkM m = none) : chkAr n (.tuple [a, m, b]) = none := by
  show chkA3 n a m b = none
  unfold chkA3
  by_cases c : wIn a 0 (n - 1) = true ∧ wIn b 0 (n - 1) = true
  · rw [if_pos c]
    rcases h with h | h | h
    · rw [h] at c; cases c.1
    · rw [h] at c; cases c.2
    · obtain ⟨x, rfl, _⟩ := wIn_int c.1
      obtain ⟨y, rfl, _⟩ := wIn_int c.2
      show (chkM m).map _ = none
      rw [h]; rfl
  · rw [if_neg c]
theorem farD {n : Int} {g : Int → PyData} {a0 : PyData} {d : PyData} (h : ∃ ds, d = .tuple ds ∧ ∃ d r, ds = d :: r ∧ d = a0 ∧ ∃ d r2, r = d :: r2 ∧ (∃ f : Int, 1001 ≤ f ∧ d = g f) ∧ r2 = []) (k : ∀ f, 1001 ≤ f → wIn (g f) (-1000) 1000 = false) : chkSt n d = none := by
  obtain ⟨ds, rfl, d, r, rfl, rfl, d2, r2, rfl, ⟨f, hf, rfl⟩, rfl⟩ := h
  exact st2 (.inr (k f hf))
theorem oddMD {n : Int} {a b : PyData} {d : PyData} (h : ∃ ds, d = .tuple ds ∧ ∃ d r, ds = d :: r ∧ d = a ∧ ∃ d r2, r = d :: r2 ∧ chkM d = none ∧ ∃ d r3, r2 = d :: r3 ∧ d = b ∧ r3 = []) : chkAr n d = none := by
  obtain ⟨ds, rfl, d, r, rfl, rfl, d2, r2, rfl, hm, d3, r3, rfl, rfl, rfl⟩ := h
  exact ar3 (.inr (.inr hm))
def spOddN (p : Int → PyData → Prop) : Sp := fun vs H Q _ => ∃ (hd : Addr) (n : Int), vs = [.ref hd, .int n] ∧ Hand hd H ∧ ∀ d y H', p n d → Kh hd H H' → Dt (Nh hd) H' d y → Q y H'
theorem sc_odds : FnScope ["_law_hand_here", "_law_stations", "_law_far"] ["_law_hand_here", "_law_stations"] (defScope (top 50)) := ⟨rfl, rfl, rfl, by decide +kernel, rfl, by decide +kernel, by decide +kernel⟩
theorem ok_odds (D : Dn K mg "_law_odd_start" 50 ["_law_hand_here", "_law_stations"]) (FD : Ok P w K mg base CX0 2 "_law_draw" ["_law_hand_here", "_law_many"] spDraw) (FP : Ok P w K mg base CX0 3 "_law_pick" ["_law_hand_here", "_law_things"] spPick) : Ok P w K mg base CX0 4 "_law_odd_start" ["_law_hand_here", "_law_stations"] (spOddN fun n d => chkSt n d = none) := by
  refine D.ok sc_odds (fun vs H Q E h => ?_) (fun f cdv A outer s H vs Q E hr h => ?_)
  · obtain ⟨hd, n, rfl, _⟩ := h; rfl
  · obtain ⟨hd, n, rfl, hH, k⟩ := h
    have hr2 : Room 2 _ := hr.mono (by decide)
    have gdf : ∀ {p : Pos}, PE (cxOf CX0 P w K mg base ["_law_hand_here", "_law_stations", "_law_far"] "_law_odd_start" (defScope (top 50)) f cdv A outer s H E).nox (.Name "_law_far" p) (gD hd (fun σ => True ∧ σ[1]? = some (some (V.int n)) ∧ ∃ f : Int, 1001 ≤ f ∧ σ[2]? = some (some (V.int f))) fun d => ∃ f : Int, 1001 ≤ f ∧ d = .int f) :=
      fun {p} => gd_var 2 (pv 2) (fun σ ⟨_, _, f, hf, e⟩ => ⟨_, _, e, ⟨f, hf, rfl⟩, fun N H => .int f⟩)
    have gdnf : ∀ {p1 p2 p3 : Pos} {j}, PE (cxOf CX0 P w K mg base ["_law_hand_here", "_law_stations", "_law_far"] "_law_odd_start" (defScope (top 50)) f cdv A outer s H E).nox (.BinOp (.Constant (.int 0) j p1) .Sub (.Name "_law_far" p2) p3) (gD hd (fun σ => True ∧ σ[1]? = some (some (V.int n)) ∧ ∃ f : Int, 1001 ≤ f ∧ σ[2]? = some (some (V.int f))) fun d => ∃ f : Int, 1001 ≤ f ∧ d = .int (0 - f)) :=
      fun {p1 p2 p3 j} => PE.imp (pe_op op_sub pe_int (pv 2)) fun σ H Q ⟨⟨_, _, f, hf, e⟩, b, c⟩ => ⟨_, e, _, _, rfl, rfl, c _ _ H ⟨f, hf, rfl⟩ b.refl (.int _)⟩
    refine ⟨_, pss_cons (ps_set (i := 2) sc_odds.nd rfl (Or.inl rfl) (pe_op op_add pe_int (pc FD hr2 pass0 (pa_cons (pv 0) (pa_cons (pe_op op_pow pe_int pe_int) pa_nil)))))
      (pss_one (ps_ret (pc FP hr pass0 (pa_cons (pv 0) (pa_cons (gd_lst (hd := hd) (S := fun σ => True ∧ σ[1]? = some (some (V.int n)) ∧ ∃ f : Int, 1001 ≤ f ∧ σ[2]? = some (some (V.int f))) (ps := fun l => (∀ d ∈ l, chkSt n d = none) ∧ l.length = 13) (gds_all (gd_imp (gd_tupE (gds_e (gd_var (p := (· = .int n)) 1 (pv 1) (fun σ h => ⟨_, _, h.2.1, rfl, fun N H => .int n⟩)) (gds_e gd_int gds_nil)) (by simp)) (fun d e => by rw [e]; exact st2 (Or.inl (w_n n))))
        (gds_all (gd_imp (gd_tupE (gds_e gd_neg (gds_e gd_int gds_nil))) (fun d e => by rw [e]; exact st2 (Or.inl w_m1)))
        (gds_all (gd_imp (gd_tup (gds_cons gd_int (gds_cons gdf gds_nil)) (fun ds h => len_2 h)) (fun d h => farD h (fun f hf => w_far (by omega))))
        (gds_all (gd_imp (gd_tup (gds_cons gd_int (gds_cons gdnf gds_nil)) (fun ds h => len_2 h)) (fun d h => farD h (fun f hf => w_nfar (by omega))))
        (gds_all (gd_imp (gd_tupE (gds_e gd_int gds_nil)) (fun d e => by rw [e]; rfl))
        (gds_all (gd_imp (gd_tupE (gds_e gd_int (gds_e gd_int (gds_e gd_int gds_nil)))) (fun d e => by rw [e]; rfl))
        (gds_all (gd_imp gd_non (fun d e => by rw [e]; rfl))
        (gds_all (gd_imp gd_int (fun d e => by rw [e]; rfl))
        (gds_all (gd_imp (gd_tupE (gds_e gd_bl (gds_e gd_int gds_nil))) (fun d e => by rw [e]; exact st2 (Or.inl rfl)))
        (gds_all (gd_imp (gd_tupE (gds_e gd_int (gds_e gd_bl gds_nil))) (fun d e => by rw [e]; exact st2 (Or.inr rfl)))
        (gds_all (gd_imp (gd_tupE (gds_e gd_int (gds_e gd_non gds_nil))) (fun d e => by rw [e]; exact st2 (Or.inr rfl)))
        (gds_all (gd_imp (gd_tupE (gds_e gd_str (gds_e gd_int gds_nil))) (fun d e => by rw [e]; exact st2 (Or.inl rfl)))
        (gds_all (gd_imp (gd_tupE gds_nil) (fun d e => by rw [e]; rfl))
        gds_all0))))))))))))) (fun ds h => by rw [h.2]; decide)) pa_nil))))), ?_⟩
    refine ⟨_, rfl, _, _, rfl, rfl, ⟨by decide, by decide, by decide⟩, hd, _, rfl, hH, by decide, by decide, fun q H1 q0 q1 k1 => ⟨_, _, rfl, rfl, ?_⟩⟩
    refine ⟨_, rfl, ⟨trivial, rfl, _, by omega, rfl⟩, k1.2, fun d v H3 ⟨ds, e1, hp, hl⟩ k3 hv => ?_⟩
    subst e1
    exact ⟨hd, _, v, ds, rfl, k3.2, hv, rfl, by omega, by omega, fun e y H4 he k4 hy => k e y H4 (hp e he) ((k1.trans k3).trans k4) hy⟩
theorem sc_odda : FnScope ["_law_hand_here", "_law_stations"] ["_law_hand_here", "_law_stations"] (defScope (top 51)) := ⟨rfl, rfl, rfl, by decide +kernel, rfl, by decide +kernel, by decide +kernel⟩
theorem ok_odda (D : Dn K mg "_law_odd_arrow" 51 ["_law_hand_here", "_law_stations"]) (FO : Ok P w K mg base CX0 4 "_law_odd_move" ["_law_hand_here"] (spOdd fun d => chkM d = none)) (FP : Ok P w K mg base CX0 3 "_law_pick" ["_law_hand_here", "_law_things"] spPick) : Ok P w K mg base CX0 5 "_law_odd_arrow" ["_law_hand_here", "_law_stations"] (spOddN fun n d => chkAr n d = none) := by
  refine D.ok sc_odda (fun vs H Q E h => ?_) (fun f cdv A outer s H vs Q E hr h => ?_)
  · obtain ⟨hd, n, rfl, _⟩ := h; rfl
  · obtain ⟨hd, n, rfl, hH, k⟩ := h
    have hr3 : Room 3 _ := hr.mono (by decide)
    have gdo : ∀ {p1 p2 p3 : Pos}, PE (cxOf CX0 P w K mg base ["_law_hand_here", "_law_stations"] "_law_odd_arrow" (defScope (top 51)) f cdv A outer s H E).nox (.Call (.Name "_law_odd_move" p1) [.Name "_law_hand_here" p2] [] p3) (gD hd (fun σ => σ[0]? = some (some (V.ref hd)) ∧ σ[1]? = some (some (V.int n))) fun d => chkM d = none) :=
      fun {p1 p2 p3} => PE.imp (pc FO hr pass0 (pa_cons (pv 0) pa_nil)) fun σ H Q ⟨⟨e, _⟩, b, c⟩ => ⟨_, e, hd, rfl, b, c⟩
    refine ⟨_, pss_one (ps_ret (pc FP hr3 pass0 (pa_cons (pv 0) (pa_cons (gd_lst (hd := hd) (S := fun σ => σ[0]? = some (some (V.ref hd)) ∧ σ[1]? = some (some (V.int n))) (ps := fun l => (∀ d ∈ l, chkAr n d = none) ∧ l.length = 12) (gds_all (gd_imp (gd_tupE (gds_e (gd_var (p := (· = .int n)) 1 (pv 1) (fun σ h => ⟨_, _, h.2, rfl, fun N H => .int n⟩)) (gds_e (gd_tupE (gds_e gd_str gds_nil)) (gds_e gd_int gds_nil))) (by simp)) (fun d e => by rw [e]; exact ar3 (Or.inl (w_n n))))
        (gds_all (gd_imp (gd_tupE (gds_e gd_int (gds_e (gd_tupE (gds_e gd_str gds_nil)) (gds_e (gd_var (p := (· = .int n)) 1 (pv 1) (fun σ h => ⟨_, _, h.2, rfl, fun N H => .int n⟩)) gds_nil))) (by simp)) (fun d e => by rw [e]; exact ar3 (Or.inr (Or.inl (w_n n)))))
        (gds_all (gd_imp (gd_tupE (gds_e gd_neg (gds_e (gd_tupE (gds_e gd_str gds_nil)) (gds_e gd_int gds_nil)))) (fun d e => by rw [e]; exact ar3 (Or.inl w_m1)))
        (gds_all (gd_imp (gd_tupE (gds_e gd_int (gds_e (gd_tupE (gds_e gd_str gds_nil)) (gds_e gd_neg gds_nil)))) (fun d e => by rw [e]; exact ar3 (Or.inr (Or.inl w_m1))))
        (gds_all (gd_imp (gd_tup (gds_cons gd_int (gds_cons gdo (gds_cons gd_int gds_nil))) (fun ds h => len_3 h)) (fun d h => oddMD h))
        (gds_all (gd_imp (gd_tupE (gds_e gd_int (gds_e (gd_tupE (gds_e gd_str gds_nil)) gds_nil))) (fun d e => by rw [e]; rfl))
        (gds_all (gd_imp (gd_tupE (gds_e gd_int (gds_e (gd_tupE (gds_e gd_str gds_nil)) (gds_e gd_int (gds_e gd_int gds_nil))))) (fun d e => by rw [e]; rfl))
        (gds_all (gd_imp gd_non (fun d e => by rw [e]; rfl))
        (gds_all (gd_imp gd_int (fun d e => by rw [e]; rfl))
        (gds_all (gd_imp (gd_tupE (gds_e gd_int (gds_e (gd_tupE (gds_e gd_str gds_nil)) (gds_e gd_bl gds_nil)))) (fun d e => by rw [e]; exact ar3 (Or.inr (Or.inl rfl))))
        (gds_all (gd_imp (gd_tupE (gds_e gd_bl (gds_e (gd_tupE (gds_e gd_str gds_nil)) (gds_e gd_int gds_nil)))) (fun d e => by rw [e]; exact ar3 (Or.inl rfl)))
        (gds_all (gd_imp (gd_tupE gds_nil) (fun d e => by rw [e]; rfl))
        gds_all0)))))))))))) (fun ds h => by rw [h.2]; decide)) pa_nil)))), ?_⟩
    refine ⟨_, rfl, ⟨rfl, rfl⟩, hH, fun d v H3 ⟨ds, e1, hp, hl⟩ k3 hv => ?_⟩
    subst e1
    exact ⟨hd, _, v, ds, rfl, k3.2, hv, rfl, by omega, by omega, fun e y H4 he k4 hy => k e y H4 (hp e he) (k3.trans k4) hy⟩
end
end K8
set_option maxRecDepth 100000
set_option maxHeartbeats 2000000
/-! Q8: with_odd, rooms_hold. -/
namespace K8
open PySem PySem.Spec PyProof.Rows L2 L2H
section
variable {P : Program} {w : World} {K : PySem.W.Frag} {mg : Str → Option Value} {base : Heap}
def spWith : Sp := fun vs H Q _ => ∃ (hd : Addr) (ds : List PyData) (o0 o1 : PyData) (v u : V), vs = [.ref hd, v, u] ∧ Hand hd H ∧ Dt (Nh hd) H (.list ds) v ∧ Dt (Nh hd) H (.list [o0, o1]) u ∧ ds.length ≤ 100 ∧
  ∀ (j : Nat) (tail : List PyData) y H', j ≤ ds.length → tail.length ≤ 2 * ds.length + 1 → Kh hd H H' → Dt (Nh hd) H' (.list [.list (ds.take j ++ o0 :: tail), .int (j : Int)]) y → Q y H'
theorem sc_with : FnScope ["_law_hand_here", "_law_things", "_law_odds", "_law_at", "_law_rest"] ["_law_hand_here", "_law_things", "_law_odds"] (defScope (top 52)) := ⟨rfl, rfl, rfl, by decide +kernel, rfl, by decide +kernel, by decide +kernel⟩
theorem ok_with (B : Bn mg) (D : Dn K mg "_law_with_odd" 52 ["_law_hand_here", "_law_things", "_law_odds"]) (FD : Ok P w K mg base CX0 2 "_law_draw" ["_law_hand_here", "_law_many"] spDraw) : Ok P w K mg base CX0 3 "_law_with_odd" ["_law_hand_here", "_law_things", "_law_odds"] spWith := by
  refine D.ok sc_with (fun vs H Q E h => ?_) (fun f cdv A outer s H vs Q E hr h => ?_)
  · obtain ⟨hd, ds, o0, o1, v, u, rfl, _⟩ := h; rfl
  · obtain ⟨hd, ds, o0, o1, v, u, rfl, hH, hv, hu, hl, k⟩ := h
    refine ⟨_, pss_cons (ps_set (i := 3) sc_with.nd rfl (Or.inl rfl) (pc FD hr pass0 (pa_cons (pv 0) (pa_cons (pe_op op_add (pe_callB len_dt (by rfl) B.len b_len (pa_cons (pv 1) pa_nil)) pe_int) pa_nil))))
      (pss_cons (ps_set (i := 4) sc_with.nd rfl (Or.inl rfl) (pe_slice sl_drop (pv 1) (po_some (pv 3)) po_none))
      (pss_cons (ps_if (pt_cmpR eqI (pc FD hr pass0 (pa_cons (pv 0) (pa_cons pe_int pa_nil))) pe_int (nomark _)) (pss_one (ps_set (i := 4) sc_with.nd rfl (Or.inl rfl) (pe_op op_catD (pe_op op_catD (pv 4) (pe_lst (pa_cons (pe_ix ix_dt (pv 2) pe_int (fun _ _ => rfl)) pa_nil))) (pv 4)))) pss_nil)
      (pss_one (ps_ret (pe_lst (pa_cons (pe_op op_catD (pe_op op_catD (pe_slice sl_take (pv 1) po_none (po_some (pv 3))) (pe_lst (pa_cons (pe_ix ix_dt (pv 2) pe_int (fun _ _ => rfl)) pa_nil))) (pv 4)) (pa_cons (pv 3) pa_nil))))))), ?_⟩
    refine ⟨_, rfl, _, rfl, _, _, _, _, rfl, hv, rfl, _, _, rfl, rfl, hd, _, rfl, hH, by omega, by omega, fun r H1 r0 r1 k1 => ?_⟩
    obtain ⟨j, rfl⟩ : ∃ j : Nat, r = (j : Int) := ⟨r.toNat, by omega⟩
    have hj : j ≤ ds.length := by omega
    refine ⟨_, rfl, _, rfl, _, rfl, _, ds, j, rfl, rfl, hv.kp k1.1, hj, k1.2.fn, fun y H2 s2 hy => ?_⟩
    have k2 := k1.same s2
    -- the end, from any rest
    have fin : ∀ (tail : List PyData) (z : V) (H3 : Hp), tail.length ≤ 2 * ds.length + 1 → Kh hd H H3 → Dt (Nh hd) H3 (.list tail) z → tRet (tLst (tCons (tOp rCatD (tOp rCatD (tSl rTake (tVar 1) tNoPart (tPart (tVar 3))) (tLst (tCons (tOp rIxDt (tVar 2) (tC (.int 0))) tNil))) (tVar 4)) (tCons (tVar 3) tNil)))
        { nx := fun _ H' => Q .non H', rt := Q } [some (.ref hd), some v, some u, some (.int (j : Int)), some z] H3 := fun tail z H3 ht k3 hz => by
      refine ⟨_, rfl, _, rfl, _, rfl, _, ds, j, rfl, rfl, hv.kp k3.1, hj, k3.2.fn, fun y1 H4 s4 h4 => ?_⟩
      have k4 := k3.same s4
      refine ⟨_, rfl, _, _, _, 0, _, hu.kp k4.1, rfl, rfl, rfl, fun o ho => ⟨sz_1, fun q nq => ?_⟩⟩
      have s5 := same_new (o := .lst [o]) nq
      have k5 := k4.same s5
      refine ⟨_, _, [o0], h4.same s5, Dt.newL (k4.2.none nq) nq (.cons ho .nil), by rw [List.length_take]; show _ + 1 ≤ _; omega, k5.2.fn, fun y2 H6 s6 h6 => ?_⟩
      have k6 := k5.same s6
      refine ⟨_, rfl, _, _, tail, h6, hz.same ((s4.trans s5).trans s6), by rw [List.length_append, List.length_take]; show _ + 1 + _ ≤ _; omega, k6.2.fn, fun y3 H7 s7 h7 => ?_⟩
      have k7 := k6.same s7
      refine ⟨_, rfl, sz_2, fun q2 nq2 => ?_⟩
      refine k j tail _ _ hj ht (k7.same (same_new nq2)) ?_
      rw [List.append_assoc] at h7
      exact Dt.newL (k7.2.none nq2) nq2 (.cons h7 (.cons (.int _) .nil))
    refine ⟨_, rfl, hd, 2, rfl, k2.2, by decide, by decide, fun r H3 r0 r1 k3 => ⟨_, _, rfl, rfl, _, rfl, ?_⟩⟩
    have k23 := k2.trans k3
    refine itd (fun _ => ?_) (fun _ => fin (ds.drop j) y H3 (by rw [List.length_drop]; omega) k23 (hy.kp k3.1))
    have hy3 := hy.kp k3.1
    refine ⟨_, rfl, _, rfl, _, _, _, 1, _, hu.kp k23.1, rfl, rfl, rfl, fun o ho => ⟨sz_1, fun q nq => ?_⟩⟩
    have s5 := same_new (o := .lst [o]) nq
    have k5 := k23.same s5
    refine ⟨_, _, [o1], hy3.same s5, Dt.newL (k23.2.none nq) nq (.cons ho .nil), by rw [List.length_drop]; show _ + 1 ≤ _; omega, k5.2.fn, fun y2 H6 s6 h6 => ?_⟩
    have k6 := k5.same s6
    refine ⟨_, rfl, _, _, _, h6, hy3.same (s5.trans s6), by rw [List.length_append, List.length_drop]; show _ + 1 + _ ≤ _; omega, k6.2.fn, fun y3 H7 s7 h7 => ?_⟩
    exact fin _ y3 H7 (by rw [List.length_append, List.length_append, List.length_drop]; show _ + 1 + _ ≤ _; omega) (k6.same s7) h7

/-! ### rooms -/
theorem shp_room (r b st n : Int) : Shp 3 (roomI r b st n) := by
  unfold roomI
  split
  · exact shp_non.up (by omega)
  · exact shp_tup (shp_cons (shp_tup (shp_cons (shp_int _) (shp_cons (shp_int _) (shp_cons (shp_int _) shp_nil)))) (shp_cons ((shp_int _).up (by omega)) shp_nil))
theorem room_back {r b n : Int} (r1 : 1 ≤ r) (b1 : 1 ≤ b) (h : ¬ ab n - r - 1 < 0) : (if n > 0 then (1 : Int) else -1) * (r + 1 + b * ((ab n - r - 1) / b) + (ab n - r - 1) % b) = n := by
  have h1 := Int.mul_ediv_add_emod (ab n - r - 1) b
  have h2 : r + 1 + b * ((ab n - r - 1) / b) + (ab n - r - 1) % b = ab n := by omega
  rw [h2]
  unfold ab at h ⊢
  split <;> split <;> omega
def spRooms (CN : Addr) : Sp := fun vs H Q _ => ∃ (hd p : Addr) (n : Int) (ss : List (Int × Int)) (as : List Ar), vs = [.ref hd, .ref p, .int (rimOf ss as), .int (blkOf as)] ∧ Hand hd H ∧ MAt CN (Nh hd) H p n ss as ∧ (1 ≤ n ∧ n ≤ 200) ∧ (1 ≤ rimOf ss as ∧ rimOf ss as ≤ 1000) ∧ (1 ≤ blkOf as ∧ blkOf as ≤ 200) ∧
  ∀ H', Kh hd H H' → Q (.bl true) H'
theorem sc_rooms : FnScope ["_law_hand_here", "_law_machine_here", "_law_rim_here", "_law_block_here", "_law_far", "_law_numbers", "_law_station", "_law_number", "_law_told_here", "_law_height", "_law_side", "_law_rest"] ["_law_hand_here", "_law_machine_here", "_law_rim_here", "_law_block_here"] (defScope (top 47)) := ⟨rfl, rfl, rfl, by decide +kernel, rfl, by decide +kernel, by decide +kernel⟩
theorem ok_rooms {CN g : Addr} (B : Bn mg) (M : MachQ K mg CN g) (D : Dn K mg "_law_rooms_hold" 47 ["_law_hand_here", "_law_machine_here", "_law_rim_here", "_law_block_here"]) (FD : Ok P w K mg base CX0 2 "_law_draw" ["_law_hand_here", "_law_many"] spDraw)
    (FR : Ok P w K mg base CX0 1 "room_of" ["machine", "station", "number"] (spRoom CN)) (FN : Ok P w K mg base CX0 1 "number_of" ["machine", "room", "height"] (spNum CN)) (FL : Ok P w K mg base CX0 1 "_law_room" ["_law_rim_here", "_law_block_here", "_law_station", "_law_number"] spLRoom) : Ok P w K mg base CX0 3 "_law_rooms_hold" ["_law_hand_here", "_law_machine_here", "_law_rim_here", "_law_block_here"] (spRooms CN) := by
  refine D.ok sc_rooms (fun vs H Q E h => ?_) (fun f cdv A outer s H vs Q E hr h => ?_)
  · obtain ⟨hd, p, n, ss, as, rfl, _⟩ := h; rfl
  · obtain ⟨hd, p, n, ss, as, rfl, hH, hM, ⟨n1, n200⟩, ⟨r1, r1000⟩, ⟨b1, b200⟩, k⟩ := h
    have hr1 : Room 1 _ := hr.mono (by decide)
    refine ⟨_, pss_cons (ps_set (i := 4) sc_rooms.nd rfl (Or.inl rfl) (pe_op op_add (pe_op op_add (pv 2) pe_int) (pc FD hr pass0 (pa_cons (pv 0) (pa_cons (pe_op op_pow pe_int pe_int) pa_nil)))))
      (pss_cons (ps_set (i := 5) sc_rooms.nd rfl (Or.inl rfl) (pe_op op_cat (pe_listRg rfl (by rfl) B.list (prg_2 (by rfl) B.range (pe_op op_sub (pe_op op_sub (pe_un un_neg (pv 2)) (pe_op op_mul pe_int (pv 3))) pe_int) (pe_op op_add (pe_op op_add (pv 2) (pe_op op_mul pe_int (pv 3))) pe_int))) (pe_lst (pa_cons (pv 4) (pa_cons (pe_op op_sub pe_int (pv 4)) pa_nil)))))
      (pss_cons (ps_set (i := 6) sc_rooms.nd rfl (Or.inl rfl) (pc FD hr pass0 (pa_cons (pv 0) (pa_cons (pe_fld (pv 1) rfl) pa_nil))))
      (pss_cons (ps_for PassesOwn.never rfl (pi_list (pv 5)) (pg_name (i := 7) sc_rooms.nd rfl (Or.inl rfl))
        (pss_cons (ps_set (i := 8) sc_rooms.nd rfl (Or.inl rfl) (pc FR hr1 pass0 (pa_cons (pv 1) (pa_cons (pv 6) (pa_cons (pv 7) pa_nil)))))
        (pss_cons (ps_if (pt_cmpR (ne_dt hr.units) (pv 8) (pc FL hr1 pass0 (pa_cons (pv 2) (pa_cons (pv 3) (pa_cons (pv 6) (pa_cons (pv 7) pa_nil))))) (nomark _)) (pss_one (ps_ret pe_bl)) pss_nil)
        (pss_one (ps_if (PW.pt (pw_and (pt_cmpR op_notN (pv 8) pe_non (nomark _)) (pw_and1 (pt_cmpR neI (pc FN hr1 pass0 (pa_cons (pv 1) (pa_cons (pe_ix ix_dt (pv 8) pe_int (fun _ _ => rfl)) (pa_cons (pe_ix ix_dt (pv 8) pe_int (fun _ _ => rfl)) pa_nil)))) (pv 7) (nomark _))))) (pss_one (ps_ret pe_bl)) pss_nil)))))
      (pss_cons (ps_set (i := 9) sc_rooms.nd rfl (Or.inl rfl) (pc FD hr pass0 (pa_cons (pv 0) (pa_cons (pe_op op_pow pe_int pe_int) pa_nil))))
      (pss_cons (ps_for PassesOwn.never rfl (pi_dt (gd_lstE (hd := hd) (S := fun _ => True) (gds_e gd_neg (gds_e gd_int gds_nil)))) (pg_name (i := 10) sc_rooms.nd rfl (Or.inl rfl))
        (pss_cons (ps_set (i := 11) sc_rooms.nd rfl (Or.inl rfl) (pc FD hr pass0 (pa_cons (pv 0) (pa_cons (pv 3) pa_nil))))
        (pss_one (ps_if (pt_cmpR neI (pc FN hr1 pass0 (pa_cons (pv 1) (pa_cons (pe_tup (pa_cons (pv 6) (pa_cons (pv 10) (pa_cons (pv 11) pa_nil)))) (pa_cons (pv 9) pa_nil)))) (pe_op op_mul (pv 10) (pe_op op_add (pe_op op_add (pe_op op_add (pv 2) pe_int) (pe_op op_mul (pv 3) (pv 9))) (pv 11))) (nomark _)) (pss_one (ps_ret pe_bl)) pss_nil))))
      (pss_one (ps_ret pe_bl))))))), ?_⟩
    refine ⟨_, rfl, _, _, rfl, rfl, _, rfl, _, _, rfl, rfl, ⟨by decide, by decide, by decide⟩, hd, _, rfl, hH, by decide, by decide, fun q H1 q0 q1 k1 => ⟨_, _, rfl, rfl, ?_⟩⟩
    obtain ⟨far, hfar⟩ : ∃ far : Int, far = rimOf ss as + 1 + q := ⟨_, rfl⟩
    show gName 4 (V.int (rimOf ss as + 1 + q)) _ H1 _
    rw [← hfar]
    refine ⟨_, rfl, _, rfl, _, rfl, _, _, rfl, rfl, .inl ⟨by decide, by decide⟩, _, _, rfl, rfl, _, _, rfl, rfl, _, rfl, _, rfl, _, _, rfl, rfl, .inl ⟨by decide, by decide⟩, _, _, rfl, rfl, _, _, rfl, rfl, _, _, rfl, rfl, ?_, fun l1 nl1 => ?_⟩
    · exact ⟨by omega, by omega, by omega, by omega, by omega⟩
    have s1 := same_new (o := .lst (rgV (-rimOf ss as - 2 * blkOf as - 1) (rimOf ss as + 2 * blkOf as + 2))) nl1
    refine ⟨_, rfl, _, rfl, _, _, rfl, rfl, sz_2, fun l2 nl2 => ?_⟩
    have s2 := same_up (o := .lst [.int far, .int (0 - far)]) s1 nl2
    have g1 : (upd (upd H1 l1 (.lst (rgV (-rimOf ss as - 2 * blkOf as - 1) (rimOf ss as + 2 * blkOf as + 2)))) l2 (.lst [.int far, .int (0 - far)])) l1 = some (.lst (rgV (-rimOf ss as - 2 * blkOf as - 1) (rimOf ss as + 2 * blkOf as + 2))) := by
      rw [upd_ne (ne_of_none upd_same nl2)]; exact upd_same
    refine ⟨l1, l2, _, _, rfl, rfl, g1, upd_same, by rw [rgV_length, sizeLine_eq]; show _ + 2 ≤ _; omega, fun l nl => ?_⟩
    have hxs : ∀ x ∈ rgV (-rimOf ss as - 2 * blkOf as - 1) (rimOf ss as + 2 * blkOf as + 2) ++ [V.int far, .int (0 - far)], ∃ z : Int, x = .int z := fun x hx => by
      rcases List.mem_append.mp hx with h | h
      · unfold rgV at h
        obtain ⟨i, _, rfl⟩ := List.mem_map.mp h
        exact ⟨_, rfl⟩
      · have : x = .int far ∨ x = .int (0 - far) := by simpa using h
        rcases this with rfl | rfl <;> exact ⟨_, rfl⟩
    have s3 := same_up (o := .lst (rgV (-rimOf ss as - 2 * blkOf as - 1) (rimOf ss as + 2 * blkOf as + 2) ++ [V.int far, .int (0 - far)])) s2 nl
    have k3 := k1.same s3
    have nlh : Nh hd l := (k1.same s2).2.none nl
    have hl3 : (upd (upd (upd H1 l1 (.lst (rgV (-rimOf ss as - 2 * blkOf as - 1) (rimOf ss as + 2 * blkOf as + 2)))) l2 (.lst [.int far, .int (0 - far)])) l (.lst (rgV (-rimOf ss as - 2 * blkOf as - 1) (rimOf ss as + 2 * blkOf as + 2) ++ [V.int far, .int (0 - far)]))) l = some (.lst (rgV (-rimOf ss as - 2 * blkOf as - 1) (rimOf ss as + 2 * blkOf as + 2) ++ [V.int far, .int (0 - far)])) := upd_same
    generalize (upd (upd (upd H1 l1 (.lst (rgV (-rimOf ss as - 2 * blkOf as - 1) (rimOf ss as + 2 * blkOf as + 2)))) l2 (.lst [.int far, .int (0 - far)])) l (.lst (rgV (-rimOf ss as - 2 * blkOf as - 1) (rimOf ss as + 2 * blkOf as + 2) ++ [V.int far, .int (0 - far)]))) = H3 at k3 hl3
    generalize rgV (-rimOf ss as - 2 * blkOf as - 1) (rimOf ss as + 2 * blkOf as + 2) ++ [V.int far, .int (0 - far)] = xs at hxs hl3
    -- station
    obtain ⟨np3, dx, w1, w2, lv, hp3, _⟩ := hM.kp k3.1
    refine ⟨_, rfl, _, rfl, p, CN, dx, _, _, rfl, hp3, M.cl, M.n1, l6_sn, hd, n, rfl, k3.2, by omega, by omega, fun st H4 st0 st1 kh4 => ?_⟩
    have k4 := k3.trans kh4
    refine ⟨_, rfl, l, rfl, ⟨_, SqL.of (kh4.1 _ _ nlh hl3)⟩, for_list (K := K) (xs := xs) (fun i σ H' => ∃ x7 x8, σ = [some (.ref hd), some (.ref p), some (.int (rimOf ss as)), some (.int (blkOf as)), some (.int far), some (.ref l), some (.int st), x7, x8, none, none, none] ∧ Kh hd H H' ∧ H' l = some (.lst xs))
      ⟨none, none, rfl, k4, kh4.1 _ _ nlh hl3⟩ (fun i σ H' _ ⟨_, _, _, _, h⟩ => SqL.of h) (fun i x σ H5 hi p5 => ?_) (fun σ H5 p5 => ?_)⟩
    · obtain ⟨x7, x8, rfl, k5, hl5⟩ := p5
      obtain ⟨z, rfl⟩ := hxs x (List.mem_of_getElem? hi)
      have hM5 := hM.kp k5.1
      refine ⟨_, rfl, _, rfl, _, rfl, Nh hd, p, n, st, z, ss, as, rfl, hM5, by omega, by omega, k5.2.fn, fun v H6 s6 hv => ?_⟩
      have k6 := k5.same s6
      refine ⟨_, rfl, _, rfl, _, rfl, _, rfl, _, rfl, Nh hd, rimOf ss as, blkOf as, st, z, rfl, by omega, by omega, k6.2.fn, fun u H7 s7 hu => ?_⟩
      have k7 := k6.same s7
      have hv7 := hv.same s7
      refine ⟨Nh hd, _, _, hv7, hu, (shp_room _ _ _ _).shaped (by omega), (shp_room _ _ _ _).shaped (by omega), _, rfl, ?_⟩
      refine itno (by show (!PyData.eqv _ _) = false; rw [(shp_room _ _ _ _).refl]; rfl) ?_
      have hl7 := s7 _ _ (s6 _ _ hl5)
      by_cases c : ab z - rimOf ss as - 1 < 0
      · have e : roomI (rimOf ss as) (blkOf as) st z = .none := if_pos c
        rw [e] at hv7
        cases hv7
        exact ⟨_, rfl, rfl, _, rfl, itno (by decide) (iteF ⟨_, _, rfl, k7, hl7⟩)⟩
      · have e : roomI (rimOf ss as) (blkOf as) st z = .tuple [.tuple [.int st, .int (if z > 0 then 1 else -1), .int ((ab z - rimOf ss as - 1) % blkOf as)], .int ((ab z - rimOf ss as - 1) / blkOf as)] := if_neg c
        rw [e] at hv7
        have nv : v ≠ .non := fun h => by rw [h] at hv7; cases hv7
        refine ⟨_, rfl, rfl, _, rfl, ity (by rw [decide_eq_false nv]; rfl) ?_⟩
        refine ⟨_, rfl, _, rfl, _, _, _, 0, _, hv7, rfl, rfl, rfl, fun y1 h1 => ⟨_, rfl, _, _, _, 1, _, hv7, rfl, rfl, rfl, fun y2 h2 => ?_⟩⟩
        cases h2
        have sdb : -(2 ^ 64) < (if z > 0 then (1 : Int) else -1) ∧ (if z > 0 then (1 : Int) else -1) < 2 ^ 64 := by split <;> decide
        refine ⟨Nh hd, p, n, st, _, _, _, ss, as, y1, rfl, hM.kp k7.1, h1, by omega, by omega, sdb.1, sdb.2, _, rfl, _, _, rfl, rfl, _, rfl, ?_⟩
        refine itno (by rw [room_back r1 b1 c, decide_eq_true rfl]; rfl) ⟨_, _, rfl, k7, hl7⟩
    · obtain ⟨x7, x8, rfl, k5, hl5⟩ := p5
      refine ⟨_, rfl, _, _, rfl, rfl, ⟨by decide, by decide, by decide⟩, hd, _, rfl, k5.2, by decide, by decide, fun ht H6 ht0 ht1 kh6 => ?_⟩
      have k6 := k5.trans kh6
      refine ⟨trivial, k6.2, fun d v H7 hdd kh7 hv => ⟨Nh hd, d, [.int (-1), .int 1], hv, congrArg seqOf hdd, for_dt (congrArg seqOf hdd) (fun i σ H' => ∃ x10 x11, σ = [some (.ref hd), some (.ref p), some (.int (rimOf ss as)), some (.int (blkOf as)), some (.int far), some (.ref l), some (.int st), x7, x8, some (.int ht), x10, x11] ∧ Kh hd H H' ∧ Dt (Nh hd) H' d v)
        ⟨none, none, rfl, k6.trans kh7, hv⟩ (fun i σ H' _ ⟨_, _, _, _, h⟩ => h) (fun i e y σ H8 hi p8 hy => ?_) (fun σ H8 p8 => ?_)⟩⟩
      · obtain ⟨x10, x11, rfl, k8, hv8⟩ := p8
        obtain ⟨sd, rfl, sd1, sd2⟩ : ∃ sd : Int, e = .int sd ∧ -1 ≤ sd ∧ sd ≤ 1 := by
          have he : e = .int (-1) ∨ e = .int 1 := by simpa using List.mem_of_getElem? hi
          rcases he with rfl | rfl
          · exact ⟨-1, rfl, by decide, by decide⟩
          · exact ⟨1, rfl, by decide, by decide⟩
        cases hy
        refine ⟨_, rfl, _, rfl, hd, _, rfl, k8.2, by omega, by omega, fun rs H9 rs0 rs1 kh9 => ?_⟩
        have k9 := k8.trans kh9
        refine ⟨_, rfl, _, rfl, _, rfl, _, rfl, sz_3, fun t nt => ⟨_, rfl, ?_⟩⟩
        have s10 := same_new (o := .tup [.int st, .int sd, .int rs]) nt
        refine ⟨Nh hd, p, n, st, sd, rs, ht, ss, as, .ref t, rfl, (hM.kp k9.1).kp (.same s10), Dt.newT (k9.2.none nt) nt (.cons (.int _) (.cons (.int _) (.cons (.int _) .nil))), by omega, by omega, by omega, by omega, ?_⟩
        refine ⟨_, rfl, _, rfl, _, _, rfl, rfl, _, rfl, _, rfl, _, _, rfl, rfl, .inl ⟨by omega, by omega⟩, _, _, rfl, rfl, _, rfl, _, _, rfl, rfl, _, _, rfl, rfl, .inl ⟨by omega, by omega⟩, _, _, rfl, rfl, _, rfl, ?_⟩
        exact itno (by rw [decide_eq_true rfl]; rfl) ⟨_, _, rfl, k9.same s10, (hv8.kp kh9.1).same s10⟩
      · obtain ⟨x10, x11, rfl, k8, hv8⟩ := p8
        exact k _ k8
end
end K8
set_option maxRecDepth 100000
set_option maxHeartbeats 2000000
/-! Q9: moves_hold. -/
namespace K8
open PySem PySem.Spec PyProof.Rows L2 L2H
theorem w_in {v lo hi : Int} (h1 : lo ≤ v) (h2 : v ≤ hi) : wIn (.int v) lo hi = true := by
  show (decide (lo ≤ v) && decide (v ≤ hi)) = true
  rw [decide_eq_true h1, decide_eq_true h2]; rfl
def inL (w : Str) (ks : List Int) : PyData := .list (.str w :: ks.map .int)
theorem chkL_b : ∀ {l : Lt}, l.rng → chkL (inL l.parts.1 l.parts.2) = some l
  | .set v, h => by
    show chkLw "set" [.int v] = _
    unfold chkLw
    rw [if_neg (by rintro ⟨h, _⟩; revert h; decide +kernel)]
    show chkLv "set" (.int v) = _
    unfold chkLv
    rw [if_pos ⟨.inl rfl, w_in h.1 h.2⟩]
    exact if_pos rfl
  | .add v, h => by
    show chkLw "add" [.int v] = _
    unfold chkLw
    rw [if_neg (by rintro ⟨h, _⟩; revert h; decide +kernel)]
    show chkLv "add" (.int v) = _
    unfold chkLv
    rw [if_pos ⟨.inr rfl, w_in h.1 h.2⟩]
    exact if_neg (by decide +kernel)
  | .turn, _ => by
    show chkLw "turn" [] = _
    unfold chkLw
    exact if_pos ⟨rfl, rfl⟩
  | .mod v, h => by
    show chkLw "mod" [.int v] = _
    unfold chkLw
    rw [if_neg (by rintro ⟨h, _⟩; revert h; decide +kernel)]
    show chkLv "mod" (.int v) = _
    unfold chkLv
    rw [if_neg (by rintro ⟨h, _⟩; revert h; decide +kernel)]
    exact if_pos ⟨rfl, w_in h.1 h.2⟩
theorem chkT_b : ∀ {l : Ts}, l.rng → chkT (inL l.parts.1 l.parts.2) = some l
  | .below v, h => by
    show chkT1 "below" (.int v) = _
    unfold chkT1
    rw [if_pos ⟨.inl rfl, w_in h.1 h.2⟩]
    exact if_pos rfl
  | .is v, h => by
    show chkT1 "is" (.int v) = _
    unfold chkT1
    rw [if_pos ⟨.inr rfl, w_in h.1 h.2⟩]
    exact if_neg (by decide +kernel)
  | .rest m r, h => by
    obtain ⟨h1, h2, h3, h4⟩ := h
    show chkT2 "rest" (.int m) (.int r) = _
    unfold chkT2
    rw [if_pos ⟨rfl, w_in h1 h2⟩]
    exact if_pos (w_in h3 (by omega))
def outL : Option (Str × Str × List Int) → PyData
  | none => .list [.str "stay"]
  | some (w1, w2, ks) => .list [.str w1, inL w2 ks]
theorem chkM_one {w : Str} {X : PyData} : w ≠ "stay" → chkM (.list [.str w, X]) = (if w = "deed" then (chkL X).map .deed else if w = "so" then (chkT X).map .so else if w = "not" then (chkT X).map .nt else none) := fun h => by
  show chkMw w [X] = _
  unfold chkMw
  rw [if_neg (fun z => h z.1)]; rfl
theorem chkM_b : ∀ {m : Mv}, m.rng → chkM (outL m.parts) = some m
  | .stay, _ => by
    show chkMw "stay" [] = _
    unfold chkMw
    exact if_pos ⟨rfl, rfl⟩
  | .deed l, h => by
    show chkM (.list [.str "deed", inL l.parts.1 l.parts.2]) = _
    rw [chkM_one (by decide +kernel), if_pos rfl, chkL_b h]; rfl
  | .so l, h => by
    show chkM (.list [.str "so", inL l.parts.1 l.parts.2]) = _
    rw [chkM_one (by decide +kernel), if_neg (by decide +kernel), if_pos rfl, chkT_b h]; rfl
  | .nt l, h => by
    show chkM (.list [.str "not", inL l.parts.1 l.parts.2]) = _
    rw [chkM_one (by decide +kernel), if_neg (by decide +kernel), if_neg (by decide +kernel), if_pos rfl, chkT_b h]; rfl
def oD : Option Int → PyData
  | some n => .int n
  | none => .none
theorem oD_dt {N : Addr → Prop} {H : Hp} : ∀ o, Dt N H (oD o) (oV o)
  | some n => .int n
  | none => .non
theorem oD_shp : ∀ o, Shp 1 (oD o)
  | some n => shp_int n
  | none => shp_non
theorem shp_goodM (m : Mv) : Shp 4 (goodM m) := shp_lst (shp_cons ((shp_words (by decide +kernel)).up (by omega)) (shp_cons (shp_mv m) shp_nil))
section
variable {P : Program} {w : World} {K : PySem.W.Frag} {mg : Str → Option Value} {base : Heap}
def spMoves : Sp := fun vs H Q _ => ∃ (hd : Addr) (as : List Ar) (v : V), vs = [.ref hd, v] ∧ Hand hd H ∧ Dt (Nh hd) H (.list (as.map encAr)) v ∧ (∀ a ∈ as, a.2.1.rng) ∧ ∀ H', Kh hd H H' → Q (.bl true) H'
theorem sc_moves : FnScope ["_law_hand_here", "_law_arrows", "_law_arrow", "_law_turn", "_law_number", "_law_parts"] ["_law_hand_here", "_law_arrows"] (defScope (top 48)) := ⟨rfl, rfl, rfl, by decide +kernel, rfl, by decide +kernel, by decide +kernel⟩
theorem ok_moves (B : Bn mg) (D : Dn K mg "_law_moves_hold" 48 ["_law_hand_here", "_law_arrows"]) (FD : Ok P w K mg base CX0 2 "_law_draw" ["_law_hand_here", "_law_many"] spDraw) (FP : Ok P w K mg base CX0 3 "_law_pick" ["_law_hand_here", "_law_things"] spPick) (FV : Ok P w K mg base CX0 3 "_law_value" ["_law_hand_here"] spVal)
    (FN : Ok P w K mg base CX0 2 "move_number" ["move", "number"] spMv) (FL : Ok P w K mg base CX0 2 "_law_moved" ["_law_move_here", "_law_number"] spLMv) (FT : Ok P w K mg base CX0 5 "_law_move_told" ["_law_move_here"] spMTold) : Ok P w K mg base CX0 6 "_law_moves_hold" ["_law_hand_here", "_law_arrows"] spMoves := by
  refine D.ok sc_moves (fun vs H Q E h => ?_) (fun f cdv A outer s H vs Q E hr h => ?_)
  · obtain ⟨hd, as, v, rfl, _⟩ := h; rfl
  · obtain ⟨hd, as, v, rfl, hH, hv, hrg, k⟩ := h
    have hr2 : Room 2 _ := hr.mono (by decide)
    have hr3 : Room 3 _ := hr.mono (by decide)
    refine ⟨_, pss_cons (ps_for PassesOwn.never rfl (pi_dt (pv 1)) (pg_name (i := 2) sc_moves.nd rfl (Or.inl rfl))
        (pss_cons (ps_for PassesOwn.never rfl (pi_range1 (by rfl) B.range (pa_cons pe_int pa_nil)) (pg_name (i := 3) sc_moves.nd rfl (Or.inl rfl))
          (pss_cons (ps_set (i := 4) sc_moves.nd rfl (Or.inl rfl) (pc FP hr3 pass0 (pa_cons (pv 0) (pa_cons (pe_lst (pa_cons (pc FV hr3 pass0 (pa_cons (pv 0) pa_nil)) (pa_cons (pe_op op_sub pe_int (pc FD hr2 pass0 (pa_cons (pv 0) (pa_cons (pe_op op_pow pe_int pe_int) pa_nil)))) (pa_cons (pc FD hr2 pass0 (pa_cons (pv 0) (pa_cons (pe_op op_pow pe_int pe_int) pa_nil))) pa_nil)))) pa_nil))))
          (pss_one (ps_if (pt_cmpR (ne_dt hr.units) (pc FN hr2 pass0 (pa_cons (pe_ix ix_dt (pv 2) pe_int (fun _ _ => rfl)) (pa_cons (pv 4) pa_nil))) (pc FL hr2 pass0 (pa_cons (pe_ix ix_dt (pv 2) pe_int (fun _ _ => rfl)) (pa_cons (pv 4) pa_nil))) (nomark _)) (pss_one (ps_ret pe_bl)) pss_nil))))
        (pss_cons (ps_set (i := 5) sc_moves.nd rfl (Or.inl rfl) (pe_ifExp (pt_cmpR eqI (pe_callB len_dt (by rfl) B.len b_len (pa_cons (pe_ix ix_dt (pv 2) pe_int (fun _ _ => rfl)) pa_nil)) pe_int (nomark _))
            (pe_lst (pa_cons (pe_callTy call_listD (by rfl) B.list b_list (pa_cons (pe_ix ix_dt (pe_ix ix_dt (pv 2) pe_int (fun _ _ => rfl)) pe_int (fun _ _ => rfl)) pa_nil)) pa_nil)) (pe_lst pa_nil)))
        (pss_one (ps_if (pt_cmpR (ne_dt hr.units) (pc FT hr pass0 (pa_cons (pe_op op_catD (pe_lst (pa_cons (pe_ix ix_dt (pe_ix ix_dt (pv 2) pe_int (fun _ _ => rfl)) pe_int (fun _ _ => rfl)) pa_nil)) (pv 5)) pa_nil)) (pe_lst (pa_cons pe_str (pa_cons (pe_ix ix_dt (pv 2) pe_int (fun _ _ => rfl)) pa_nil))) (nomark _)) (pss_one (ps_ret pe_bl)) pss_nil)))))
      (pss_one (ps_ret pe_bl)), ?_⟩
    refine ⟨v, rfl, Nh hd, _, _, hv, rfl, for_dt rfl (fun i σ H' => ∃ x2 x3 x4 x5, σ = [some (.ref hd), some v, x2, x3, x4, x5] ∧ Kh hd H H') ⟨none, none, none, none, rfl, hH.refl⟩ (fun i σ H' _ ⟨_, _, _, _, _, h⟩ => hv.kp h.1) (fun i e y σ H1 hi p hy => ?_) (fun σ H1 p => ?_)⟩
    · obtain ⟨x2, x3, x4, x5, rfl, k1⟩ := p
      obtain ⟨a, hst, rfl⟩ := map_get hi
      obtain ⟨a1, m, a2⟩ := a
      have hm : m.rng := hrg _ (List.mem_of_getElem? hst)
      -- four numbers
      refine seq_of (fun σ' H' => ∃ x3 x4, σ' = [some (.ref hd), some v, some y, x3, x4, x5] ∧ Kh hd H1 H') (fun σ' H2 p => ?_) (fun nx hn => ?_)
      rotate_left
      · refine ⟨4, rfl, by decide, by decide, for_range (fun i σ H' => ∃ x3 x4, σ = [some (.ref hd), some v, some y, x3, x4, x5] ∧ Kh hd H1 H') ⟨x3, x4, rfl, k1.2.refl⟩ (fun i σ H2 hi p => ?_) (fun σ H2 p => hn _ _ p)⟩
        obtain ⟨x3, x4, rfl, k2⟩ := p
        refine ⟨_, rfl, _, rfl, hd, rfl, k2.2, fun z1 H3 z10 z11 k3 => ?_⟩
        refine ⟨_, rfl, _, _, rfl, rfl, ⟨by decide, by decide, by decide⟩, hd, _, rfl, k3.2, by decide, by decide, fun z2 H4 z20 z21 k4 => ⟨_, _, rfl, rfl, ?_⟩⟩
        refine ⟨_, rfl, _, _, rfl, rfl, ⟨by decide, by decide, by decide⟩, hd, _, rfl, k4.2, by decide, by decide, fun z3 H5 z30 z31 k5 => ⟨sz_3, fun q nq => ?_⟩⟩
        have k25 := ((k2.trans k3).trans k4).trans k5
        have k6 := k5.2.ks (same_new (o := .lst [.int z1, .int (0 - z2), .int z3]) nq)
        refine ⟨hd, .list [.int z1, .int (0 - z2), .int z3], .ref q, _, rfl, k6.2, Dt.newL (k5.2.none nq) nq (.cons (.int _) (.cons (.int _) (.cons (.int _) .nil))), rfl, (by show 0 < 3; decide), (by show 3 < 2 ^ 60; decide), fun e w H7 he k7 hw => ?_⟩
        obtain ⟨z, rfl⟩ : ∃ z : Int, e = .int z := by
          have he' : e = .int z1 ∨ e = .int (0 - z2) ∨ e = .int z3 := by simpa using he
          rcases he' with rfl | rfl | rfl <;> exact ⟨_, rfl⟩
        cases hw
        have kk := (k25.trans k6).trans k7
        have hy7 := hy.kp kk.1
        refine ⟨_, rfl, _, _, _, 1, _, hy7, rfl, rfl, rfl, fun w1 h1 => ⟨_, rfl, Nh hd, m, w1, z, rfl, h1, Mv.okr hm, ?_⟩⟩
        refine ⟨_, rfl, _, _, _, 1, _, hy7, rfl, rfl, rfl, fun w2 h2 => ⟨_, rfl, Nh hd, m, w2, z, rfl, h2, hm, ?_⟩⟩
        refine ⟨Nh hd, _, _, oD_dt _, oD_dt _, (oD_shp _).shaped (by omega), (oD_shp _).shaped (by omega), _, rfl, ?_⟩
        exact itno (by show (!PyData.eqv _ _) = false; rw [(oD_shp _).refl]; rfl) ⟨_, _, rfl, kk⟩
      obtain ⟨x3, x4, rfl, k2⟩ := p
      have hy2 := hy.kp k2.1
      have k12 := k1.trans k2
      -- parts
      have fin : ∀ (z : V) (H3 : Hp), Kh hd H2 H3 → Dt (Nh hd) H3 (.list ((match m.parts with | none => [] | some (_, w2, ks) => [inL w2 ks]))) z →
          tIfS (tTest (tOp (rEqDt true) (tCall spMTold [] E0 (tCons (tOp rCatD (tLst (tCons (tOp rIxDt (tOp rIxDt (tVar 2) (tC (.int 1))) (tC (.int 0))) tNil)) (tVar 5)) tNil)) (tLst (tCons (tC (.str "good")) (tCons (tOp rIxDt (tVar 2) (tC (.int 1))) tNil))))) (tRet (tC (.bl false))) tNext
            { nx := fun σ H' => ∃ x2 x3 x4 x5, σ = [some (.ref hd), some v, x2, x3, x4, x5] ∧ Kh hd H H', rt := Q } [some (.ref hd), some v, some y, x3, x4, some z] H3 := fun z H3 k3 hz => by
        have hy3 := hy2.kp k3.1
        refine ⟨_, rfl, _, _, _, 1, _, hy3, rfl, rfl, rfl, fun w1 h1 => ?_⟩
        have h1' : Dt (Nh hd) H3 m.enc w1 := h1
        rw [Mv.enc_parts] at h1'
        obtain ⟨ds, hds, w0, r, hw0⟩ : ∃ ds, encP m.parts = .tuple ds ∧ ∃ w0 r, ds = PyData.str w0 :: r := by
          cases m.parts with
          | none => exact ⟨_, rfl, _, _, rfl⟩
          | some t => exact ⟨_, rfl, _, _, rfl⟩
        subst hw0
        refine ⟨_, _, _, 0, .str w0, h1', rfl, by rw [hds]; rfl, rfl, fun w2 h2 => ?_⟩
        cases h2
        refine ⟨sz_1, fun q nq => ⟨_, rfl, ?_⟩⟩
        have s4 := same_new (o := .lst [.str w0]) nq
        have k4 := k3.same s4
        refine ⟨Nh hd, [.str w0], _, Dt.newL (k3.2.none nq) nq (.cons (.str _) .nil), hz.same s4, ?_, k4.2.fn, fun u H5 s5 hu => ?_⟩
        · cases m.parts with
          | none => show 1 + 0 ≤ 8000; decide
          | some t => show 1 + 1 ≤ 8000; decide
        have k5 := k4.same s5
        have eo : (PyData.list ([.str w0] ++ (match m.parts with | none => [] | some (_, w2, ks) => [inL w2 ks]))) = outL m.parts := by
          cases hp : m.parts with
          | none => rw [hp] at hds; cases hds; rfl
          | some t =>
            obtain ⟨t1, t2, t3⟩ := t
            rw [hp] at hds
            cases hds
            rfl
        rw [eo] at hu
        refine ⟨Nh hd, _, u, rfl, hu, k5.2.fn, fun m' hm' y2 H6 s6 hy2 => ?_, fun hn => by rw [chkM_b hm] at hn; cases hn⟩
        rw [chkM_b hm] at hm'
        cases hm'
        have k6 := k5.same s6
        refine ⟨_, rfl, _, _, _, 1, _, hy2.kp Kp.refl |> fun _ => hy.kp ((k2.trans k6).1), rfl, rfl, rfl, fun w3 h3 => ⟨sz_2, fun q2 nq2 => ?_⟩⟩
        have s7 := same_new (o := .lst [.str "good", w3]) nq2
        refine ⟨Nh hd, goodM m, goodM m, hy2.same s7, Dt.newL (k6.2.none nq2) nq2 (.cons (.str _) (.cons h3 .nil)), (shp_goodM m).shaped (by omega), (shp_goodM m).shaped (by omega), _, rfl, ?_⟩
        exact itno (by show (!PyData.eqv _ _) = false; rw [(shp_goodM m).refl]; rfl) ⟨_, _, _, _, rfl, k12.trans (k6.same s7)⟩
      refine ⟨_, rfl, _, _, _, 1, _, hy2, rfl, rfl, rfl, fun w1 h1 => ?_⟩
      have h1' : Dt (Nh hd) H2 m.enc w1 := h1
      rw [Mv.enc_parts] at h1'
      cases hp : m.parts with
      | none =>
        rw [hp] at h1' fin
        refine ⟨_, _, w1, _, rfl, h1', rfl, _, _, rfl, rfl, _, rfl, ?_⟩
        refine itno (decide_eq_false (by simp)) ⟨Nat.zero_le _, fun q nq => ?_⟩
        exact fin (.ref q) _ (k2.2.ks (same_new nq)) (Dt.newL (k2.2.none nq) nq .nil)
      | some t =>
        obtain ⟨t1, t2, t3⟩ := t
        rw [hp] at h1' fin
        refine ⟨_, _, w1, _, rfl, h1', rfl, _, _, rfl, rfl, _, rfl, ?_⟩
        refine ity (decide_eq_true rfl) ?_
        have hy2' : Dt (Nh hd) H2 (.tuple [.int a1, encP (some (t1, t2, t3)), .int a2]) y := by
          have := hy2
          unfold encAr at this
          rw [Mv.enc_parts, hp] at this
          exact this
        refine ⟨_, rfl, _, _, _, 1, _, hy2', rfl, rfl, rfl, fun w2 h2 => ⟨_, _, _, 1, _, h2, rfl, rfl, rfl, fun w3 h3 => ?_⟩⟩
        refine ⟨Nh hd, _, w3, _, rfl, h3, rfl, k2.2.fn, fun u H3 s3 hu => ⟨sz_1, fun q nq => ?_⟩⟩
        have k3 := k2.2.ks s3
        exact fin (.ref q) _ (k3.same (same_new nq)) (Dt.newL (k3.2.none nq) nq (.cons hu .nil))
    · obtain ⟨x2, x3, x4, x5, rfl, k1⟩ := p
      exact k _ k1
end
end K8
set_option maxRecDepth 100000
set_option maxHeartbeats 2000000
/-! QA: which refusal; great_holds. -/
namespace K8
open PySem PySem.Spec PyProof.Rows L2 L2H

/-! ### one answer only -/
section
variable {α : Type} {f : PyData → Option α} {lim : Nat} {d : PyData}
theorem some_inj : ∀ {a b : List α}, a.map some = b.map some → a = b
  | [], [], _ => rfl
  | x :: a, y :: b, h => by
    rw [List.map_cons, List.map_cons] at h
    injection h with h1 h2
    cases h1
    rw [some_inj h2]
  | [], _ :: _, h => by cases h
  | _ :: _, [], h => by cases h
theorem okS_one {a b : List α} (h1 : okS f lim d a) (h2 : okS f lim d b) : a = b := by
  obtain ⟨ds, e1, _, m1⟩ := h1
  obtain ⟨ds', e2, _, m2⟩ := h2
  rw [e1] at e2; cases e2
  exact some_inj (m1.symm.trans m2)
theorem none_at {ds : List PyData} {ls : List α} (h : ds.map f = ls.map some) {i : Nat} {e : PyData} (hi : ds[i]? = some e) : f e ≠ none := fun z => by
  have h1 : (ds.map f)[i]? = some (f e) := by rw [List.getElem?_map, hi]; rfl
  rw [h, List.getElem?_map, z] at h1
  cases hl : ls[i]? with
  | none => rw [hl] at h1; cases h1
  | some x => rw [hl] at h1; cases h1
theorem ok_no {a : List α} {at_ : Int} (h1 : okS f lim d a) (h2 : badS f lim d at_) : False := by
  obtain ⟨ds, e1, hl, m1⟩ := h1
  rcases h2 with ⟨h, _⟩ | ⟨ds', i, e, ls, e2, _, _, hi, hf, _⟩
  · have := h ds e1; omega
  · rw [e1] at e2; cases e2
    exact none_at m1 hi hf
theorem badS_one {a b : Int} (h1 : badS f lim d a) (h2 : badS f lim d b) : a = b := by
  rcases h1 with ⟨g1, rfl⟩ | ⟨ds, i, e, ls, e1, l1, rfl, i1, f1, m1⟩
  · rcases h2 with ⟨_, rfl⟩ | ⟨ds', j, e', ls', e2, l2, rfl, i2, f2, m2⟩
    · rfl
    · have := g1 ds' e2; omega
  · rcases h2 with ⟨g2, rfl⟩ | ⟨ds', j, e', ls', e2, l2, rfl, i2, f2, m2⟩
    · have := g2 ds e1; omega
    · rw [e1] at e2; cases e2
      by_cases hij : i < j
      · exact absurd f1 (none_at m2 (by rw [List.getElem?_take_of_lt hij]; exact i1))
      · by_cases hji : j < i
        · exact absurd f2 (none_at m1 (by rw [List.getElem?_take_of_lt hji]; exact i2))
        · have : i = j := by omega
          rw [this]
end
theorem bad_one {dS dA dB : PyData} {w w' : Str} {a a' : Int} (h : badMach dS dA dB w a) (h' : badMach dS dA dB w' a') : w = w' ∧ a = a' := by
  rcases h with ⟨c, rfl, rfl⟩ | ⟨n, rfl, n1, n2, hb, rfl⟩ | ⟨n, ss, rfl, n1, n2, ho, hb, rfl⟩
  · rcases h' with ⟨_, rfl, rfl⟩ | ⟨n, rfl, n1, n2, _, rfl⟩ | ⟨n, ss, rfl, n1, n2, _, _, rfl⟩
    · exact ⟨rfl, rfl⟩
    · rw [w_in n1 n2] at c; cases c
    · rw [w_in n1 n2] at c; cases c
  · rcases h' with ⟨c, rfl, rfl⟩ | ⟨m, e, _, _, hb', rfl⟩ | ⟨m, ss, e, _, _, ho, _, rfl⟩
    · rw [w_in n1 n2] at c; cases c
    · cases e; exact ⟨rfl, badS_one hb hb'⟩
    · cases e; exact (ok_no ho hb).elim
  · rcases h' with ⟨c, rfl, rfl⟩ | ⟨m, e, _, _, hb', rfl⟩ | ⟨m, ss', e, _, _, _, hb', rfl⟩
    · rw [w_in n1 n2] at c; cases c
    · cases e; exact (ok_no ho hb').elim
    · cases e; exact ⟨rfl, badS_one hb hb'⟩
theorem ok_bad {dS dA dB : PyData} {w : Str} {a n : Int} {ss : List (Int × Int)} {as : List Ar} (h : okMach dS dA dB n ss as) (h' : badMach dS dA dB w a) : False := by
  obtain ⟨rfl, n1, n2, hA, hB⟩ := h
  rcases h' with ⟨c, rfl, rfl⟩ | ⟨m, e, _, _, hb', rfl⟩ | ⟨m, ss', e, _, _, _, hb', rfl⟩
  · rw [w_in n1 n2] at c; cases c
  · cases e; exact ok_no hA hb'
  · cases e; exact ok_no hB hb'
theorem okM_one {dS dA dB : PyData} {n n' : Int} {ss ss' : List (Int × Int)} {as as' : List Ar} (h : okMach dS dA dB n ss as) (h' : okMach dS dA dB n' ss' as') : n = n' ∧ ss = ss' ∧ as = as' := by
  obtain ⟨rfl, n1, n2, hA, hB⟩ := h
  obtain ⟨e, _, _, hA', hB'⟩ := h'
  cases e
  exact ⟨rfl, okS_one hA hA', okS_one hB hB'⟩
/-- told, the good answer known; the bad one -/
theorem told_ok {N : Addr → Prop} {H : Hp} {Q : VK} {E : XK} {dS dA dB : PyData} {vS vA vB : V} {n : Int} {ss : List (Int × Int)} {as : List Ar} (h1 : Dt N H dS vS) (h2 : Dt N H dA vA) (h3 : Dt N H dB vB) (fn : Fn N H) (h : okMach dS dA dB n ss as)
    (k : ∀ y H', Same H H' → Dt N H' (goodD n ss as) y → Q y H') : spTold [vS, vA, vB] H Q E :=
  ⟨N, dS, dA, dB, vS, vA, vB, rfl, h1, h2, h3, fn, fun n' ss' as' h' y H' s hy => by obtain ⟨rfl, rfl, rfl⟩ := okM_one h h'; exact k y H' s hy, fun wh at_ h' => (ok_bad h h').elim⟩
theorem told_bad {N : Addr → Prop} {H : Hp} {Q : VK} {E : XK} {dS dA dB : PyData} {vS vA vB : V} {wh : Str} {at_ : Int} (h1 : Dt N H dS vS) (h2 : Dt N H dA vA) (h3 : Dt N H dB vB) (fn : Fn N H) (h : badMach dS dA dB wh at_)
    (k : ∀ y H', Same H H' → Dt N H' (badD wh at_) y → Q y H') : spTold [vS, vA, vB] H Q E :=
  ⟨N, dS, dA, dB, vS, vA, vB, rfl, h1, h2, h3, fn, fun n' ss' as' h' => (ok_bad h' h).elim, fun wh' at' h' y H' s hy => by obtain ⟨rfl, rfl⟩ := bad_one h h'; exact k y H' s hy⟩
/-! ### what is made is let through -/
theorem chkL_enc {l : Lt} (h : l.rng) : chkL l.enc = some l := by
  have e : chkL l.enc = chkL (inL l.parts.1 l.parts.2) := by cases l <;> rfl
  rw [e]; exact chkL_b h
theorem chkT_enc {l : Ts} (h : l.rng) : chkT l.enc = some l := by
  have e : chkT l.enc = chkT (inL l.parts.1 l.parts.2) := by cases l <;> rfl
  rw [e]; exact chkT_b h
theorem chkM_enc : ∀ {m : Mv}, m.rng → chkM m.enc = some m
  | .stay, _ => by
    show chkMw "stay" [] = _
    unfold chkMw
    exact if_pos ⟨rfl, rfl⟩
  | .deed l, h => by
    show chkM (.list [.str "deed", l.enc]) = _
    rw [chkM_one (by decide +kernel), if_pos rfl, chkL_enc h]; rfl
  | .so l, h => by
    show chkM (.list [.str "so", l.enc]) = _
    rw [chkM_one (by decide +kernel), if_neg (by decide +kernel), if_pos rfl, chkT_enc h]; rfl
  | .nt l, h => by
    show chkM (.list [.str "not", l.enc]) = _
    rw [chkM_one (by decide +kernel), if_neg (by decide +kernel), if_neg (by decide +kernel), if_pos rfl, chkT_enc h]; rfl
theorem chkA3_ok {n x y : Int} {m : PyData} {mv : Mv} (h1 : 0 ≤ x ∧ x < n) (h2 : 0 ≤ y ∧ y < n) (hm : chkM m = some mv) : chkA3 n (.int x) m (.int y) = some (x, mv, y) := by
  unfold chkA3
  rw [if_pos ⟨w_in h1.1 (by omega), w_in h2.1 (by omega)⟩]
  show (chkM m).map (fun l => ((x, l, y) : Ar)) = _
  rw [hm]; rfl
theorem chkAr_enc {n : Int} {a : Ar} (h : a.2.1.rng ∧ (0 ≤ a.1 ∧ a.1 < n) ∧ 0 ≤ a.2.2 ∧ a.2.2 < n) : chkAr n (encAr a) = some a := chkA3_ok h.2.1 h.2.2 (chkM_enc h.1)
/-- .. as a list or a tuple -/
theorem chkAr_sq {n : Int} {a : Ar} {d : PyData} (hd : seqOf d = some [.int a.1, a.2.1.enc, .int a.2.2]) (h : a.2.1.rng ∧ (0 ≤ a.1 ∧ a.1 < n) ∧ 0 ≤ a.2.2 ∧ a.2.2 < n) : chkAr n d = some a := by
  unfold chkAr
  rw [hd]
  exact chkA3_ok h.2.1 h.2.2 (chkM_enc h.1)
theorem chkSt_sq {n : Int} {p : Int × Int} {d : PyData} (hd : seqOf d = some [.int p.1, .int p.2]) (h : (0 ≤ p.1 ∧ p.1 < n) ∧ -1000 ≤ p.2 ∧ p.2 ≤ 1000) : chkSt n d = some p := by
  unfold chkSt
  rw [hd]
  exact if_pos ⟨w_in h.1.1 (by omega), w_in h.2.1 h.2.2⟩
theorem map_all {α : Type} {f : PyData → Option α} {enc : α → PyData} : ∀ {ls : List α}, (∀ a ∈ ls, f (enc a) = some a) → (ls.map enc).map f = ls.map some
  | [], _ => rfl
  | a :: r, h => by
    rw [List.map_cons, List.map_cons, List.map_cons, h a List.mem_cons_self, map_all fun x hx => h x (List.mem_cons_of_mem _ hx)]
theorem okS_enc {α : Type} {f : PyData → Option α} {enc : α → PyData} {lim : Nat} {d : PyData} {ls : List α} (hd : seqOf d = some (ls.map enc)) (hl : ls.length ≤ lim) (h : ∀ a ∈ ls, f (enc a) = some a) : okS f lim d ls :=
  ⟨_, hd, by rw [List.length_map]; exact hl, map_all h⟩
theorem badS_enc {α : Type} {f : PyData → Option α} {enc : α → PyData} {lim j : Nat} {ls : List α} {o : PyData} {tail : List PyData} (hj : j ≤ ls.length) (hl : ls.length + 1 + tail.length ≤ lim) (h : ∀ a ∈ ls, f (enc a) = some a) (ho : f o = none) :
    badS f lim (.list ((ls.map enc).take j ++ o :: tail)) (j : Int) := by
  have e1 : ((ls.map enc).take j).length = j := by rw [List.length_take, List.length_map]; omega
  refine .inr ⟨_, j, o, ls.take j, rfl, ?_, rfl, ?_, ho, ?_⟩
  · rw [List.length_append, e1, List.length_cons]; omega
  · rw [List.getElem?_append_right (by omega), e1, Nat.sub_self]; rfl
  · rw [List.take_left' e1, ← List.map_take]
    exact map_all fun a ha => h a (List.mem_of_mem_take ha)
theorem shp_good {n : Int} {ss : List (Int × Int)} {as : List Ar} : Shp 6 (goodD n ss as) :=
  shp_lst (shp_cons ((shp_words (by decide +kernel)).up (by omega)) (shp_cons ((shp_int _).up (by omega)) (shp_cons ((shp_sts _).up (by omega)) (shp_cons (shp_ars _) shp_nil))))
theorem shp_bad {wh : Str} {at_ : Int} (h : wh ∈ (["set", "add", "turn", "mod", "below", "is", "rest", "stay", "deed", "so", "not", "good", "bad", "stations", "starts", "arrows"] : List Str)) : Shp 2 (badD wh at_) :=
  shp_lst (shp_cons (shp_words (by decide +kernel)) (shp_cons (shp_words h) (shp_cons (shp_int _) (shp_cons (shp_bl _) shp_nil))))
theorem bad_word {dS dA dB : PyData} {w : Str} {a : Int} (h : badMach dS dA dB w a) : w ∈ (["set", "add", "turn", "mod", "below", "is", "rest", "stay", "deed", "so", "not", "good", "bad", "stations", "starts", "arrows"] : List Str) := by
  rcases h with ⟨_, rfl, _⟩ | ⟨n, _, _, _, _, rfl⟩ | ⟨n, ss, _, _, _, _, _, rfl⟩ <;> decide +kernel
section
variable {P : Program} {w : World} {K : PySem.W.Frag} {mg : Str → Option Value} {base : Heap}
def spGreat : Sp := fun vs H Q _ => ∃ (hd : Addr), vs = [.ref hd] ∧ Hand hd H ∧ ∀ H', Q (.bl true) H'
theorem sc_great : FnScope ["_law_hand_here", "_law_starts", "_law_arrows", "_law_k"] ["_law_hand_here"] (defScope (top 54)) := ⟨rfl, rfl, rfl, by decide +kernel, rfl, by decide +kernel, by decide +kernel⟩
def gss (n : Nat) : List (Int × Int) := (List.range n).map fun (k : Nat) => (199 - (k : Int), 1000 - 33 * (k : Int))
theorem ok_great (B : Bn mg) (D : Dn K mg "_law_great_holds" 54 ["_law_hand_here"]) (FP : Ok P w K mg base CX0 3 "_law_pick" ["_law_hand_here", "_law_things"] spPick) (FT : Ok P w K mg base CX0 8 "_law_told" ["_law_stations", "_law_starts", "_law_arrows"] spTold) : Ok P w K mg base CX0 9 "_law_great_holds" ["_law_hand_here"] spGreat := by
  refine D.ok sc_great (fun vs H Q E h => ?_) (fun f cdv A outer s H vs Q E hr h => ?_)
  · obtain ⟨hd, rfl, _⟩ := h; rfl
  · obtain ⟨hd, rfl, hH, k⟩ := h
    have hr3 : Room 3 _ := hr.mono (by decide)
    refine ⟨_, pss_cons (ps_setLc (te := tTup (tCons (tOp (rI0 fun i j => .int (i - j)) (tC (.int 199)) (tVar 3)) (tCons (tOp (rI0 fun i j => .int (i - j)) (tC (.int 1000)) (tOp (rI CMul fun i j => .int (i * j)) (tC (.int 33)) (tVar 3))) tNil))) (i := 1) (own := [("_law_k", 3)]) (g := gName 3) rfl sc_great.nd rfl rfl (sw_true rfl rfl rfl (by decide +kernel)) (pi_range1 (by rfl) B.range (pa_cons pe_int pa_nil))
        (blkOk_by (N := ["_law_hand_here", "_law_starts", "_law_arrows", "_law_k"]) (sc := defScope (top 54)) (by decide +kernel))
        (fun _ _ _ _ _ => pg_name (i := 3) sc_great.nd rfl (Or.inl rfl)) (fun _ _ _ _ _ => pts_nil) (fun _ _ _ _ _ => pe_tup (pa_cons (pe_op op_sub pe_int (pv 3)) (pa_cons (pe_op op_sub pe_int (pe_op op_mul pe_int (pv 3))) pa_nil))))
      (pss_cons (ps_set (i := 2) sc_great.nd rfl (Or.inl rfl) (pe_op op_repD (gd_lstE (hd := hd) (S := fun σ => σ[0]? = some (some (V.ref hd))) (gds_e (gd_tupE (gds_e gd_int (gds_e (gd_tupE (gds_e gd_str gds_nil)) (gds_e gd_int gds_nil)))) gds_nil)) (pc FP hr3 pass0 (pa_cons (pv 0) (pa_cons (gd_lstE (hd := hd) (S := fun _ => True) (gds_e gd_int (gds_e gd_int gds_nil))) pa_nil)))))
      (pss_one (ps_ret (pe_cmpR (eq_dt hr.units) (pc FT hr pass0 (pa_cons pe_int (pa_cons (pv 1) (pa_cons (pv 2) pa_nil)))) (pe_lst (pa_cons pe_str (pa_cons pe_int (pa_cons (pe_callTy call_tupD (by rfl) B.tuple b_tuple (pa_cons (pv 1) pa_nil)) (pa_cons (pe_callTy call_tupD (by rfl) B.tuple b_tuple (pa_cons (pv 2) pa_nil)) pa_nil))))) (nomark _))))), ?_⟩
    refine ⟨60, rfl, by decide, by decide, fun L nL => lc_range (fun i H' => Kh hd H H' ∧ ∃ vs, H' L = some (.lst vs) ∧ vs.length = i ∧ DtL (Nx (Nh hd) L) H' ((gss i).map encSt) vs) ⟨hH.ks (same_new nL), [], upd_same, rfl, .nil⟩ (fun i H' hi ⟨k1, vs, hL, hl, hdl⟩ => ?_) (fun H' ⟨k1, vs, hL, hl, hdl⟩ => ?_)⟩
    · have hi60 : i < 60 := hi
      refine ⟨rfl, _, rfl, _, _, rfl, rfl, _, rfl, _, _, rfl, rfl, .inl ⟨by decide, by decide⟩, _, _, rfl, rfl, sz_2, fun q nq => ?_⟩
      have s1 := same_new (o := .tup [.int (199 - (0 + (i : Int))), .int (1000 - 33 * (0 + (i : Int)))]) nq
      have hL2 := s1 _ _ hL
      refine ⟨vs, hL2, by rw [sizeLine_eq]; omega, ((k1.same s1).put hH nL), _, upd_same, by rw [List.length_append, hl]; rfl, ?_⟩
      have e : gss (i + 1) = gss i ++ [(199 - (i : Int), 1000 - 33 * (i : Int))] := by unfold gss; rw [List.range_succ, List.map_append]; rfl
      rw [e, List.map_append]
      refine DtL.app ((hdl.same s1).kp .putx) (.one ?_)
      have d0 : Dt (Nx (Nh hd) L) (upd H' q (.tup [.int (199 - (0 + (i : Int))), .int (1000 - 33 * (0 + (i : Int)))])) (.tuple [.int (199 - (0 + (i : Int))), .int (1000 - 33 * (0 + (i : Int)))]) (.ref q) := Dt.newT ⟨k1.2.none nq, Ne.symm (ne_of_none hL nq)⟩ nq (.cons (.int _) (.cons (.int _) .nil))
      have z : (0 : Int) + (i : Int) = i := Int.zero_add _
      rw [z] at d0
      rw [z]
      exact d0.kp .putx
    have nLh : Nh hd L := hH.fn L nL
    have hA : Dt (Nh hd) H' (.list ((gss 60).map encSt)) (.ref L) := .lst nLh hL (hdl.sub Nx.sub)
    refine ⟨rfl, k1.2, fun d v H1 hdd kh1 hv => ?_⟩
    subst hdd
    refine ⟨_, rfl, trivial, kh1.2, fun d u H2 hdd kh2 hu => ⟨hd, d, u, [.int 1, .int 4000], rfl, kh2.2, hu, congrArg seqOf hdd, by decide, by decide, fun e y H3 he kh3 hy => ?_⟩⟩
    obtain ⟨c, rfl, c4⟩ : ∃ c : Nat, e = .int (c : Int) ∧ c ≤ 4000 := by
      have he' : e = .int 1 ∨ e = .int 4000 := by simpa using he
      rcases he' with rfl | rfl
      · exact ⟨1, rfl, by decide⟩
      · exact ⟨4000, rfl, by decide⟩
    cases hy
    have k23 := kh2.trans kh3
    refine ⟨Nh hd, _, c, hv.kp k23.1, rfl, by omega, kh3.2.fn, fun y H4 s4 hB => ?_⟩
    have k4 : Kh hd H' H4 := (kh1.trans k23).same s4
    have hB' : Dt (Nh hd) H4 (.list ((List.replicate c ((0, .stay, 199) : Ar)).map encAr)) y := by rw [List.map_replicate]; exact hB
    have hok : okMach (.int 200) (.list ((gss 60).map encSt)) (.list ((List.replicate c ((0, .stay, 199) : Ar)).map encAr)) 200 (gss 60) (List.replicate c ((0, .stay, 199) : Ar)) := by
      refine ⟨rfl, by decide, by decide, okS_enc rfl (by unfold gss; rw [List.length_map, List.length_range]; decide) fun a ha => ?_, okS_enc rfl (by rw [List.length_replicate]; exact c4) fun a ha => ?_⟩
      · unfold gss at ha
        obtain ⟨k, hk, rfl⟩ := List.mem_map.mp ha
        have hk60 : k < 60 := List.mem_range.mp hk
        exact chkSt_sq rfl ⟨⟨by show 0 ≤ 199 - (k : Int); omega, by show 199 - (k : Int) < 200; omega⟩, by show -1000 ≤ 1000 - 33 * (k : Int); omega, by show 1000 - 33 * (k : Int) ≤ 1000; omega⟩
      · rw [List.eq_of_mem_replicate ha]
        exact chkAr_enc ⟨trivial, ⟨by decide, by decide⟩, by decide, by decide⟩
    refine ⟨_, rfl, _, rfl, told_ok (E := E0) (.int 200) (hA.kp k4.1) hB' k4.2.fn hok fun z H5 s5 hz => ?_⟩
    have k5 := k4.same s5
    refine ⟨_, rfl, Nh hd, _, _, _, rfl, hA.kp k5.1, rfl, k5.2.fn, fun t1 H6 s6 h6 => ⟨_, rfl, Nh hd, _, _, _, rfl, hB'.same (s5.trans s6), rfl, (k5.same s6).2.fn, fun t2 H7 s7 h7 => ⟨szl_100 (by show 4 ≤ 100; decide), fun q nq => ?_⟩⟩⟩
    have k7 := (k5.same s6).same s7
    have s8 := same_new (o := .lst [.str "good", .int 200, t1, t2]) nq
    refine ⟨Nh hd, _, goodD 200 (gss 60) (List.replicate c ((0, .stay, 199) : Ar)), hz.same ((s6.trans s7).trans s8), Dt.newL (k7.2.none nq) nq (.cons (.str _) (.cons (.int _) (.cons (h6.same s7) (.cons h7 .nil)))), shp_good.shaped (by omega), shp_good.shaped (by omega), ?_⟩
    have e : PyData.eqv (goodD 200 (gss 60) (List.replicate c ((0, .stay, 199) : Ar))) (goodD 200 (gss 60) (List.replicate c ((0, .stay, 199) : Ar))) = true := shp_good.refl
    show Q (.bl (PyData.eqv _ _)) _
    rw [e]
    exact k _
end
end K8
set_option maxRecDepth 100000
set_option maxHeartbeats 2000000
/-! QB: refusals_hold. -/
namespace K8
open PySem PySem.Spec PyProof.Rows L2 L2H
section
variable {X : Cx} {hd : Addr} {S : L2.St → Prop} {e : Expr} {pos p1 : Pos} {j}
theorem gd_rep {d : PyData} {k : Nat} (h : PE X e (gD hd S (· = .list [d]))) (hk : k ≤ 8000 := by decide) : PE X (.BinOp e .Mult (.Constant (.int (k : Int)) j p1) pos) (gD hd S (· = .list (List.replicate k d))) :=
  PE.imp (pe_op op_repD h pe_int) fun σ H Q ⟨a, b, c⟩ => ⟨a, b, fun d' v H' e kh hv => ⟨Nh hd, d, k, by rw [← e]; exact hv, rfl, hk, kh.2.fn, fun y H2 s2 hy => c _ _ _ rfl (kh.same s2) hy⟩⟩
end
section
variable {P : Program} {w : World} {K : PySem.W.Frag} {mg : Str → Option Value} {base : Heap}
def spRefuse : Sp := fun vs H Q _ => ∃ (hd : Addr) (n : Int) (ss : List (Int × Int)) (as : List Ar) (v : V), vs = [.ref hd, v] ∧ Hand hd H ∧ BaseOk n ss as ∧ Dt (Nh hd) H (encB n ss as) v ∧ ∀ H', Kh hd H H' → Q (.bl true) H'
theorem sc_ref : FnScope ["_law_hand_here", "_law_base", "_law_stations", "_law_starts", "_law_arrows", "_law_due", "_law_flags", "_law_odds", "_law_at"] ["_law_hand_here", "_law_base"] (defScope (top 53)) := ⟨rfl, rfl, rfl, by decide +kernel, rfl, by decide +kernel, by decide +kernel⟩
/-- a thing that is no list of at most lim -/
def Off (lim : Nat) (d : PyData) : Prop := ∀ ds, seqOf d = some ds → lim < ds.length
theorem off0 {lim : Nat} {d : PyData} (h : seqOf d = none) : Off lim d := fun ds e => by rw [h] at e; cases e
theorem offR {lim k : Nat} {x : PyData} {d : PyData} (h : d = .list (List.replicate k x)) (hk : lim < k) : Off lim d := fun ds e => by rw [h] at e; cases e; rw [List.length_replicate]; exact hk
theorem st_ok {n : Int} {ss : List (Int × Int)} {as : List Ar} (h : BaseOk n ss as) : ∀ a ∈ ss, chkSt n (encSt a) = some a := fun a ha => chkSt_sq rfl ⟨(h.st a ha).1, by have := (h.st a ha).2.1; omega, by have := (h.st a ha).2.2; omega⟩
theorem ar_ok {n : Int} {ss : List (Int × Int)} {as : List Ar} (h : BaseOk n ss as) : ∀ a ∈ as, chkAr n (encAr a) = some a := fun a ha => chkAr_enc (h.ar a ha)
theorem ok_refuse (B : Bn mg) (D : Dn K mg "_law_refusals_hold" 53 ["_law_hand_here", "_law_base"]) (FD : Ok P w K mg base CX0 2 "_law_draw" ["_law_hand_here", "_law_many"] spDraw) (FP : Ok P w K mg base CX0 3 "_law_pick" ["_law_hand_here", "_law_things"] spPick)
    (FS : Ok P w K mg base CX0 4 "_law_odd_start" ["_law_hand_here", "_law_stations"] (spOddN fun n d => chkSt n d = none)) (FA : Ok P w K mg base CX0 5 "_law_odd_arrow" ["_law_hand_here", "_law_stations"] (spOddN fun n d => chkAr n d = none))
    (FW : Ok P w K mg base CX0 3 "_law_with_odd" ["_law_hand_here", "_law_things", "_law_odds"] spWith) (FT : Ok P w K mg base CX0 8 "_law_told" ["_law_stations", "_law_starts", "_law_arrows"] spTold) : Ok P w K mg base CX0 9 "_law_refusals_hold" ["_law_hand_here", "_law_base"] spRefuse := by
  refine D.ok sc_ref (fun vs H Q E h => ?_) (fun f cdv A outer s H vs Q E hr h => ?_)
  · obtain ⟨hd, n, ss, as, v, rfl, _⟩ := h; rfl
  · obtain ⟨hd, n, ss, as, v, rfl, hH, hB, hv, k⟩ := h
    have hr2 : Room 2 _ := hr.mono (by decide)
    have hr3 : Room 3 _ := hr.mono (by decide)
    have hr4 : Room 4 _ := hr.mono (by decide)
    have hr5 : Room 5 _ := hr.mono (by decide)
    have gfar : ∀ {p1 p2 p3 p4 p5 p6 p7 pos : Pos} {j1 j2 j3}, PE (cxOf CX0 P w K mg base ["_law_hand_here", "_law_base", "_law_stations", "_law_starts", "_law_arrows", "_law_due", "_law_flags", "_law_odds", "_law_at"] "_law_refusals_hold" (defScope (top 53)) f cdv A outer s H E).nox
        (.BinOp (.Constant (.int 201) j1 p1) .Add (.Call (.Name "_law_draw" p2) [.Name "_law_hand_here" p3, .BinOp (.Constant (.int 10) j2 p4) .Pow (.Constant (.int 9) j3 p5) p6] [] p7) pos) (gD hd (fun σ => σ[0]? = some (some (V.ref hd))) fun d => wIn d 1 200 = false) :=
      fun {p1 p2 p3 p4 p5 p6 p7 pos j1 j2 j3} => PE.imp (pe_op op_add pe_int (pc FD hr2 pass0 (pa_cons (pv 0) (pa_cons (pe_op op_pow pe_int pe_int) pa_nil)))) fun σ H Q ⟨e, b, c⟩ => ⟨_, e, _, _, rfl, rfl, ⟨by decide, by decide, by decide⟩, hd, _, rfl, b, by decide, by decide, fun q H' q0 q1 kh => ⟨_, _, rfl, rfl, c (.int (201 + q)) _ _ (by
        show (decide (1 ≤ 201 + q) && decide (201 + q ≤ 200)) = false
        rw [decide_eq_false (show ¬ 201 + q ≤ 200 by omega), Bool.and_false]) kh (.int _)⟩⟩
    refine ⟨_, pss_cons (ps_par3 (i := 2) (j := 3) (l := 4) rfl sc_ref.nd rfl rfl rfl (by decide) (by decide) (by decide) rfl rfl rfl (pa_cons (pe_ix ix_dt (pv 1) pe_int (fun _ _ => rfl)) (pa_cons (pe_callTy call_listD (by rfl) B.list b_list (pa_cons (pe_ix ix_dt (pv 1) pe_int (fun _ _ => rfl)) pa_nil)) (pa_cons (pe_callTy call_listD (by rfl) B.list b_list (pa_cons (pe_ix ix_dt (pv 1) pe_int (fun _ _ => rfl)) pa_nil)) pa_nil))) (by rfl))
      (pss_cons (ps_set (i := 5) sc_ref.nd rfl (Or.inl rfl) pe_non)
      (pss_cons (ps_set (i := 6) sc_ref.nd rfl (Or.inl rfl) (pe_op op_add pe_int (pc FD hr2 pass0 (pa_cons (pv 0) (pa_cons pe_int pa_nil)))))
      (pss_cons (ps_if (pt_cmpR eqI (pe_op op_mod (i1 B (pv 6)) pe_int) pe_int (nomark _))
        (pss_cons (ps_set (i := 7) sc_ref.nd rfl (Or.inl rfl) (pe_lst (pa_cons (pc FA hr5 pass0 (pa_cons (pv 0) (pa_cons (pv 2) pa_nil))) (pa_cons (pc FA hr5 pass0 (pa_cons (pv 0) (pa_cons (pv 2) pa_nil))) pa_nil))))
        (pss_cons (ps_asg (pc FW hr3 pass0 (pa_cons (pv 0) (pa_cons (pv 4) (pa_cons (pv 7) pa_nil)))) (pg_unl (n := 2) rfl (pgs_cons (pg_name (i := 4) sc_ref.nd rfl (Or.inl rfl)) (pgs_cons (pg_name (i := 8) sc_ref.nd rfl (Or.inl rfl)) pgs_nil))))
        (pss_cons (ps_if (pt_cmpR eqI (pc FD hr2 pass0 (pa_cons (pv 0) (pa_cons pe_int pa_nil))) pe_int (nomark _))
          (pss_one (ps_par (i := 4) (j := 8) rfl sc_ref.nd rfl rfl (by decide) rfl rfl (pa_cons (pc FP hr3 pass0 (pa_cons (pv 0) (pa_cons (gd_lst (hd := hd) (S := fun _ => True) (ps := fun l => (∀ d ∈ l, Off 4000 d) ∧ l.length = 4) (gds_all (gd_imp gd_non fun d e => off0 (by rw [e]; rfl)) (gds_all (gd_imp gd_int fun d e => off0 (by rw [e]; rfl)) (gds_all (gd_imp gd_str fun d e => off0 (by rw [e]; rfl)) (gds_all (gd_imp (gd_rep (k := 4001) (gd_lstE (gds_e (gd_tupE (gds_e gd_int (gds_e (gd_tupE (gds_e gd_str gds_nil)) (gds_e gd_int gds_nil)))) gds_nil))) fun d e => offR e (by decide)) gds_all0)))) (fun ds h => by rw [h.2]; decide)) pa_nil))) (pa_cons (pe_un un_neg pe_int) pa_nil)) (by rfl))) pss_nil)
        (pss_one (ps_set (i := 5) sc_ref.nd rfl (Or.inl rfl) (pe_lst (pa_cons pe_str (pa_cons pe_str (pa_cons (pv 8) (pa_cons pe_bl pa_nil)))))))))) pss_nil)
      (pss_cons (ps_if (pt_cmpR eqI (pe_op op_mod (i1 B (pe_op op_fdiv (pv 6) pe_int)) pe_int) pe_int (nomark _))
        (pss_cons (ps_set (i := 7) sc_ref.nd rfl (Or.inl rfl) (pe_lst (pa_cons (pc FS hr4 pass0 (pa_cons (pv 0) (pa_cons (pv 2) pa_nil))) (pa_cons (pc FS hr4 pass0 (pa_cons (pv 0) (pa_cons (pv 2) pa_nil))) pa_nil))))
        (pss_cons (ps_asg (pc FW hr3 pass0 (pa_cons (pv 0) (pa_cons (pv 3) (pa_cons (pv 7) pa_nil)))) (pg_unl (n := 2) rfl (pgs_cons (pg_name (i := 3) sc_ref.nd rfl (Or.inl rfl)) (pgs_cons (pg_name (i := 8) sc_ref.nd rfl (Or.inl rfl)) pgs_nil))))
        (pss_cons (ps_if (pt_cmpR eqI (pc FD hr2 pass0 (pa_cons (pv 0) (pa_cons pe_int pa_nil))) pe_int (nomark _))
          (pss_one (ps_par (i := 3) (j := 8) rfl sc_ref.nd rfl rfl (by decide) rfl rfl (pa_cons (pc FP hr3 pass0 (pa_cons (pv 0) (pa_cons (gd_lst (hd := hd) (S := fun _ => True) (ps := fun l => (∀ d ∈ l, Off 60 d) ∧ l.length = 4) (gds_all (gd_imp gd_non fun d e => off0 (by rw [e]; rfl)) (gds_all (gd_imp gd_int fun d e => off0 (by rw [e]; rfl)) (gds_all (gd_imp gd_str fun d e => off0 (by rw [e]; rfl)) (gds_all (gd_imp (gd_rep (k := 61) (gd_lstE (gds_e (gd_tupE (gds_e gd_int (gds_e gd_int gds_nil))) gds_nil))) fun d e => offR e (by decide)) gds_all0)))) (fun ds h => by rw [h.2]; decide)) pa_nil))) (pa_cons (pe_un un_neg pe_int) pa_nil)) (by rfl))) pss_nil)
        (pss_one (ps_set (i := 5) sc_ref.nd rfl (Or.inl rfl) (pe_lst (pa_cons pe_str (pa_cons pe_str (pa_cons (pv 8) (pa_cons pe_bl pa_nil)))))))))) pss_nil)
      (pss_cons (ps_if (pt_cmpR eqI (pe_op op_fdiv (pv 6) pe_int) pe_int (nomark _))
        (pss_cons (ps_set (i := 2) sc_ref.nd rfl (Or.inl rfl) (pc FP hr3 pass0 (pa_cons (pv 0) (pa_cons (gd_lst (hd := hd) (S := fun σ => σ[0]? = some (some (V.ref hd))) (ps := fun l => (∀ d ∈ l, wIn d 1 200 = false) ∧ l.length = 7) (gds_all (gd_imp gd_int fun d e => by rw [e]; decide) (gds_all gfar (gds_all (gd_imp gd_neg fun d e => by rw [e]; decide) (gds_all (gd_imp gd_bl fun d e => by rw [e]; rfl) (gds_all (gd_imp gd_non fun d e => by rw [e]; rfl) (gds_all (gd_imp gd_str fun d e => by rw [e]; rfl) (gds_all (gd_imp (gd_lstE (gds_e gd_int gds_nil)) fun d e => by rw [e]; rfl) gds_all0))))))) (fun ds h => by rw [h.2]; decide)) pa_nil))))
        (pss_one (ps_set (i := 5) sc_ref.nd rfl (Or.inl rfl) (pe_lst (pa_cons pe_str (pa_cons pe_str (pa_cons (pe_un un_neg pe_int) (pa_cons pe_bl pa_nil)))))))) pss_nil)
      (pss_one (ps_ret (pe_cmpR (eq_dt hr.units) (pc FT hr pass0 (pa_cons (pv 2) (pa_cons (pv 3) (pa_cons (pv 4) pa_nil)))) (pv 5) (nomark _))))))))), ?_⟩
    refine ⟨_, rfl, Nh hd, _, _, 0, _, hv, rfl, rfl, rfl, fun w hw => ?_⟩
    cases hw
    refine ⟨_, rfl, Nh hd, _, _, 1, _, hv, rfl, rfl, rfl, fun w1 hw1 => ⟨Nh hd, _, w1, _, rfl, hw1, rfl, hH.fn, fun vA H1 s1 hA => ?_⟩⟩
    refine ⟨_, rfl, Nh hd, _, _, 2, _, hv.same s1, rfl, rfl, rfl, fun w2 hw2 => ⟨Nh hd, _, w2, _, rfl, hw2, rfl, (hH.same s1).fn, fun vB H2 s2 hB0 => ?_⟩⟩
    have k2 := (hH.ks s1).same s2
    refine ⟨_, _, _, rfl, _, rfl, hd, 7, rfl, k2.2, by decide, by decide, fun q H3 q0 q1 kh3 => ⟨_, _, rfl, rfl, ?_⟩⟩
    have k3 := k2.trans kh3
    have hA3 := (hA.same s2).kp kh3.1
    have hB3 := hB0.kp kh3.1
    have n1 := hB.n1
    have n8 := hB.n8
    have sl := hB.sl
    have al := hB.al
    dsimp only [gName]
    refine seq_of (fun σ' H' => ∃ dB vB vD x7 x8, σ' = [some (.ref hd), some v, some (.int n), some vA, some vB, some vD, some (.int (1 + q)), x7, x8] ∧ Kh hd H3 H' ∧ Dt (Nh hd) H' dB vB ∧ (((1 + q) % 2 = 1 ∧ ∃ at_, badS (chkAr n) 4000 dB at_ ∧ Dt (Nh hd) H' (badD "arrows" at_) vD) ∨ (¬ (1 + q) % 2 = 1 ∧ dB = .list (as.map encAr)))) (fun σ' H4 p => ?_) (fun nx hn => ?_)
    rotate_left
    · refine ⟨_, rfl, _, rfl, _, _, rfl, rfl, (by show (0 : Int) < 2; decide), _, _, rfl, rfl, _, rfl, ?_⟩
      refine itd (fun c => ?_) (fun c => hn _ _ ⟨_, _, _, _, _, rfl, kh3.2.refl, hB3, .inr ⟨c, rfl⟩⟩)
      -- the odd ones
      refine ⟨_, rfl, _, rfl, hd, n, rfl, kh3.2, fun o0 y0 G4 ho0 kh4 hy0 => ⟨_, rfl, _, rfl, hd, n, rfl, kh4.2, fun o1 y1 G5 ho1 kh5 hy1 => ⟨sz_2, fun p np => ?_⟩⟩⟩
      have k5 := kh3.2.refl.trans (kh4.trans kh5)
      have s6 := same_new (o := .lst [y0, y1]) np
      have k6 := k5.same s6
      refine ⟨_, rfl, _, rfl, _, rfl, hd, _, o0, o1, _, .ref p, rfl, k6.2, hB3.kp k6.1, Dt.newL (k5.2.none np) np (.cons (hy0.kp kh5.1) (.cons hy1 .nil)), by rw [List.length_map]; omega, fun j tail y H7 hj ht kh7 hy => ?_⟩
      rw [List.length_map] at hj ht
      have k7 := k6.trans kh7
      cases hy with
      | lst nn' hh rr =>
        cases rr with
        | cons r1 rr =>
          cases rr with
          | cons r2 rr =>
            cases rr
            cases r2
            refine ⟨_, _, rfl, SqL.of hh, rfl, _, _, rfl, _, _, rfl, rfl, ?_⟩
            dsimp only [gName]
            refine seq_of (fun σ' H' => ∃ dX vX at_, σ' = [some (.ref hd), some v, some (.int n), some vA, some vX, some .non, some (.int (1 + q)), some (.ref p), some (.int at_)] ∧ Kh hd H3 H' ∧ Dt (Nh hd) H' dX vX ∧ badS (chkAr n) 4000 dX at_) (fun σ' H8 p8 => ?_) (fun nx2 hn2 => ?_)
            rotate_left
            · refine ⟨_, rfl, hd, 4, rfl, k7.2, by decide, by decide, fun r H8 r0 r1' kh8 => ⟨_, _, rfl, rfl, _, rfl, ?_⟩⟩
              have k8 := k7.trans kh8
              refine itd (fun _ => ?_) (fun _ => hn2 _ _ ⟨_, _, _, rfl, k8, r1.kp kh8.1, badS_enc hj (by omega) (ar_ok hB) ho0⟩)
              refine ⟨_, rfl, trivial, k8.2, fun d u H9 ⟨ds, e, hp, hl⟩ kh9 hu => ?_⟩
              subst e
              refine ⟨hd, _, u, ds, rfl, kh9.2, hu, rfl, by omega, by omega, fun e y H10 he kh10 hy => ⟨_, rfl, _, _, rfl, ?_⟩⟩
              exact hn2 _ _ ⟨e, y, -1, rfl, (k8.trans kh9).trans kh10, hy, .inl ⟨hp e he, rfl⟩⟩
            obtain ⟨dX, vX, at_, rfl, k8, hX, hbad⟩ := p8
            refine ⟨_, rfl, szl_100 (by show 4 ≤ 100; decide), fun p2 np2 => ?_⟩
            have s9 := same_new (o := .lst [.str "bad", .str "arrows", .int at_, .bl true]) np2
            exact hn _ _ ⟨dX, vX, _, _, _, rfl, k8.same s9, hX.same s9, .inl ⟨c, at_, hbad, Dt.newL (k8.2.none np2) np2 (.cons (.str _) (.cons (.str _) (.cons (.int _) (.cons (.bl _) .nil))))⟩⟩
    obtain ⟨dB, vB', vD, x7, x8, rfl, k4, hB4, hcase⟩ := p
    have hA4 := hA3.kp k4.1
    refine seq_of (fun σ' H' => ∃ dA vA dB vB vD x7 x8, σ' = [some (.ref hd), some v, some (.int n), some vA, some vB, some vD, some (.int (1 + q)), x7, x8] ∧ Kh hd H3 H' ∧ Dt (Nh hd) H' dA vA ∧ Dt (Nh hd) H' dB vB ∧ ((∃ wh at_, badMach (.int n) dA dB wh at_ ∧ Dt (Nh hd) H' (badD wh at_) vD) ∨ (¬ (1 + q) % 2 = 1 ∧ ¬ (1 + q) / 2 % 2 = 1))) (fun σ' H5 p => ?_) (fun nx hn => ?_)
    rotate_left
    · refine ⟨_, rfl, _, _, rfl, rfl, ⟨by decide, by decide⟩, _, rfl, _, _, rfl, rfl, (by show (0 : Int) < 2; decide), _, _, rfl, rfl, _, rfl, ?_⟩
      refine itd (fun c => ?_) (fun c => ?_)
      rotate_left
      · rcases hcase with ⟨c1, at_, hb, hD⟩ | ⟨c1, e⟩
        · exact hn _ _ ⟨_, _, _, _, _, _, _, rfl, k4, hA4, hB4, .inl ⟨_, at_, .inr (.inr ⟨n, ss, rfl, n1, by omega, okS_enc rfl (by omega) (st_ok hB), hb, rfl⟩), hD⟩⟩
        · exact hn _ _ ⟨_, _, _, _, _, _, _, rfl, k4, hA4, hB4, .inr ⟨c1, c⟩⟩
      -- the odd ones
      refine ⟨_, rfl, _, rfl, hd, n, rfl, k4.2, fun o0 y0 G4 ho0 kh4 hy0 => ⟨_, rfl, _, rfl, hd, n, rfl, kh4.2, fun o1 y1 G5 ho1 kh5 hy1 => ⟨sz_2, fun p np => ?_⟩⟩⟩
      have k5 := k4.2.refl.trans (kh4.trans kh5)
      have s6 := same_new (o := .lst [y0, y1]) np
      have k6 := k5.same s6
      refine ⟨_, rfl, _, rfl, _, rfl, hd, _, o0, o1, _, .ref p, rfl, k6.2, hA4.kp k6.1, Dt.newL (k5.2.none np) np (.cons (hy0.kp kh5.1) (.cons hy1 .nil)), by rw [List.length_map]; omega, fun j tail y H7 hj ht kh7 hy => ?_⟩
      rw [List.length_map] at hj ht
      have k7 := k6.trans kh7
      cases hy with
      | lst nn' hh rr =>
        cases rr with
        | cons r1 rr =>
          cases rr with
          | cons r2 rr =>
            cases rr
            cases r2
            refine ⟨_, _, rfl, SqL.of hh, rfl, _, _, rfl, _, _, rfl, rfl, ?_⟩
            dsimp only [gName]
            refine seq_of (fun σ' H' => ∃ dX vX at_, σ' = [some (.ref hd), some v, some (.int n), some vX, some vB', some vD, some (.int (1 + q)), some (.ref p), some (.int at_)] ∧ Kh hd H4 H' ∧ Dt (Nh hd) H' dX vX ∧ badS (chkSt n) 60 dX at_) (fun σ' H8 p8 => ?_) (fun nx2 hn2 => ?_)
            rotate_left
            · refine ⟨_, rfl, hd, 4, rfl, k7.2, by decide, by decide, fun r H8 r0 r1' kh8 => ⟨_, _, rfl, rfl, _, rfl, ?_⟩⟩
              have k8 := k7.trans kh8
              refine itd (fun _ => ?_) (fun _ => hn2 _ _ ⟨_, _, _, rfl, k8, r1.kp kh8.1, badS_enc hj (by omega) (st_ok hB) ho0⟩)
              refine ⟨_, rfl, trivial, k8.2, fun d u H9 ⟨ds, e, hp, hl⟩ kh9 hu => ?_⟩
              subst e
              refine ⟨hd, _, u, ds, rfl, kh9.2, hu, rfl, by omega, by omega, fun e y H10 he kh10 hy => ⟨_, rfl, _, _, rfl, ?_⟩⟩
              exact hn2 _ _ ⟨e, y, -1, rfl, (k8.trans kh9).trans kh10, hy, .inl ⟨hp e he, rfl⟩⟩
            obtain ⟨dX, vX, at_, rfl, k8, hX, hbad⟩ := p8
            refine ⟨_, rfl, szl_100 (by show 4 ≤ 100; decide), fun p2 np2 => ?_⟩
            have s9 := same_new (o := .lst [.str "bad", .str "starts", .int at_, .bl true]) np2
            have k48 : Kh hd H4 _ := k8.same s9
            exact hn _ _ ⟨dX, vX, dB, vB', _, _, _, rfl, k4.trans k48, hX.same s9, hB4.kp k48.1, .inl ⟨_, at_, .inr (.inl ⟨n, rfl, n1, by omega, hbad, rfl⟩), Dt.newL (k8.2.none np2) np2 (.cons (.str _) (.cons (.str _) (.cons (.int _) (.cons (.bl _) .nil))))⟩⟩
    obtain ⟨dA, vA', dB', vB'', vD', x7', x8', rfl, k5, hA5, hB5, hcase5⟩ := p
    refine seq_of (fun σ' H' => ∃ dS vS dA vA dB vB vD x7 x8, σ' = [some (.ref hd), some v, some vS, some vA, some vB, some vD, some (.int (1 + q)), x7, x8] ∧ Kh hd H3 H' ∧ Dt (Nh hd) H' dS vS ∧ Dt (Nh hd) H' dA vA ∧ Dt (Nh hd) H' dB vB ∧ ∃ wh at_, badMach dS dA dB wh at_ ∧ Dt (Nh hd) H' (badD wh at_) vD) (fun σ' H6 p => ?_) (fun nx hn => ?_)
    rotate_left
    · refine ⟨_, rfl, _, _, rfl, rfl, ⟨by decide, by decide⟩, _, _, rfl, rfl, _, rfl, ?_⟩
      refine itd (fun c => ?_) (fun c => ?_)
      · refine ⟨_, rfl, rfl, k5.2, fun d u H6 ⟨ds, e, hp, hl⟩ kh6 hu => ?_⟩
        subst e
        refine ⟨hd, _, u, ds, rfl, kh6.2, hu, rfl, by omega, by omega, fun e y H7 he kh7 hy => ?_⟩
        have k57 := kh6.trans kh7
        refine ⟨_, rfl, szl_100 (by show 4 ≤ 100; decide), fun p2 np2 => ?_⟩
        have s9 := same_new (o := .lst [.str "bad", .str "stations", .int (-1), .bl true]) np2
        have k79 := k57.same s9
        exact hn _ _ ⟨e, y, dA, vA', dB', vB'', _, _, _, rfl, k5.trans k79, hy.same s9, hA5.kp k79.1, hB5.kp k79.1, _, -1, .inl ⟨hp e he, rfl, rfl⟩, Dt.newL (k57.2.none np2) np2 (.cons (.str _) (.cons (.str _) (.cons (.int _) (.cons (.bl _) .nil))))⟩
      · rcases hcase5 with ⟨wh, at_, hb, hD⟩ | ⟨c1, c2⟩
        · exact hn _ _ ⟨_, _, _, _, _, _, _, _, _, rfl, k5, .int n, hA5, hB5, wh, at_, hb, hD⟩
        · exfalso
          have c' : ¬ (1 + q) / 4 = 1 := c
          omega
    obtain ⟨dS, vS, dA2, vA2, dB2, vB2, vD2, y7, y8, rfl, k6, hS6, hA6, hB6, wh, at_, hb, hD⟩ := p
    refine ⟨_, rfl, _, rfl, _, rfl, told_bad (E := E0) hS6 hA6 hB6 k6.2.fn hb fun y H7 s7 hy => ?_⟩
    refine ⟨_, rfl, Nh hd, _, _, hy, hD.same s7, (shp_bad (bad_word hb)).shaped (by omega), (shp_bad (bad_word hb)).shaped (by omega), ?_⟩
    have e : PyData.eqv (badD wh at_) (badD wh at_) = true := (shp_bad (bad_word hb)).refl
    show Q (.bl (PyData.eqv _ _)) _
    rw [e]
    exact k _ ((k3.trans k6).same s7)
end
end K8
set_option maxRecDepth 100000
set_option maxHeartbeats 2000000
/-! QC: what the law needs of its machines. -/
namespace K8
open PySem PySem.Spec PyProof.Rows L2 L2H
/-- a comprehension over data -/
theorem lc_dt {N : Addr → Prop} {d : PyData} {v : V} {ds : List PyData} {g : TG} {tt : TT} {te : TE} {vs : List Nat} {σ : L2.St} {H1 : Hp} {D : Addr} {Qd : Hp → Prop} (hq : seqOf d = some ds) (Pv : Nat → Hp → Prop) (h0 : Pv 0 (upd H1 D (.lst []))) (hl : ∀ i H, i ≤ ds.length → Pv i H → Dt N H d v)
    (hs : ∀ i e x H, ds[i]? = some e → Pv i H → Dt N H e x → g x (wipe σ vs) H fun σ2 H2 => wipe σ2 vs = wipe σ vs ∧ tt σ2 H2 fun b H3 =>
      if b = true then te σ2 H3 fun y H4 => ∃ acc, H4 D = some (.lst acc) ∧ acc.length < sizeLine ∧ Pv (i + 1) (upd H4 D (.lst (acc ++ [y]))) else Pv (i + 1) H3) (hd : ∀ H, Pv ds.length H → Qd H) :
    ∃ W : Nat → Nat → Hp → Prop, (∃ m, W 0 m (upd H1 D (.lst []))) ∧ ∀ i m H, W i m H →
      ((ItD N d v).stop i H ∧ Qd H) ∨ ((ItD N d v).go i H ∧ ∃ Nx : Hp → Prop, (∀ H', Nx H' → ∃ m', m' < m ∧ W (i + 1) m' H') ∧ ∀ x H', (ItD N d v).yld i H x H' → g x (wipe σ vs) H' fun σ2 H2 => wipe σ2 vs = wipe σ vs ∧ tt σ2 H2 fun b H3 =>
        if b = true then te σ2 H3 fun y H4 => ∃ acc, H4 D = some (.lst acc) ∧ acc.length < sizeLine ∧ Nx (upd H4 D (.lst (acc ++ [y]))) else Nx H3) := by
  refine ⟨fun i m H => m = ds.length - i ∧ i ≤ ds.length ∧ Pv i H, ⟨ds.length, by simp, Nat.zero_le _, h0⟩, ?_⟩
  rintro i m H ⟨rfl, hi, p⟩
  have q := hl i H hi p
  by_cases hlt : i < ds.length
  · refine .inr ⟨⟨ds, q, hq, hlt⟩, Pv (i + 1), fun H' p' => ⟨ds.length - (i + 1), by omega, rfl, hlt, p'⟩, fun x H' y => ?_⟩
    obtain ⟨e, ds', e3, e4, e5, e6⟩ := y
    rw [hq] at e4
    cases e4
    subst e3
    exact hs i e x _ e5 p e6
  · have e : i = ds.length := by omega
    subst e
    exact .inl ⟨⟨ds, q, hq, Nat.le_refl _⟩, hd H p⟩
section
variable {P : Program} {w : World} {K : PySem.W.Frag} {mg : Str → Option Value} {base : Heap}
/-- Machine(..) that is let through -/
theorem mk_ok {CN CB hd : Addr} {H : Hp} {Q : VK} {E : XK} {dS dA dB : PyData} {vS vA vB : V} {n : Int} {ss : List (Int × Int)} {as : List Ar} (hH : Hand hd H) (hS : Dt (Nh hd) H dS vS) (hA : Dt (Nh hd) H dA vA) (hB : Dt (Nh hd) H dB vB)
    (hok : okMach dS dA dB n ss as) {p dx : Addr} (np : H p = none) (nd : H dx = none) (ne : dx ≠ p) (k : ∀ H', Same H H' → MAt CN (Nh hd) H' p n ss as → Q .non H') :
    spInit CN CB [.ref p, vS, vA, vB] (upd (upd H dx (.own p)) p (.ins CN dx [])) Q E := by
  have sH : Same H (upd H dx (.own p)) := same_new nd
  have nd1 : (upd H dx (.own p)) p = none := by rw [upd_ne (Ne.symm ne)]; exact np
  have s1 : Same H (upd (upd H dx (.own p)) p (.ins CN dx [])) := same_up sH nd1
  refine ⟨Nh hd, p, dx, dS, dA, dB, vS, vA, vB, rfl, upd_same, hS.same s1, hA.same s1, hB.same s1, hH.fn.same s1, fun n' ss' as' hok' H' v1 v2 lv dx' kq hp' h1 h2 => ?_, fun wh at_ hb => (ok_bad hok hb).elim⟩
  obtain ⟨rfl, rfl, rfl⟩ := okM_one hok hok'
  exact k H' (fun b o e => kq.1 b o (fun z => by rw [z, np] at e; cases e) (s1 b o e)) ⟨hH.none np, dx', v1, v2, lv, hp', h1.sub Nx.sub, h2.sub Nx.sub⟩
/-- == of two machines -/
theorem eq_rd {CN hd p q : Addr} {H : Hp} {Q : VK} {n n' : Int} {ss ss' : List (Int × Int)} {as as' : List Ar} (h1 : MAt CN (Nh hd) H p n ss as) (h2 : MAt CN (Nh hd) H q n' ss' as')
    (k : Q (.bl (decide (n = n') && PyData.eqv (.tuple (ss.map encSt)) (.tuple (ss'.map encSt)) && PyData.eqv (.tuple (as.map encAr)) (.tuple (as'.map encAr)))) H) : rOwnI CN (spEqM CN) (.ref p) (.ref q) H Q := by
  obtain ⟨_, dx, _, _, _, e1, _⟩ := id h1
  obtain ⟨_, dy, _, _, _, e2, _⟩ := id h2
  exact ⟨p, dx, _, q, dy, _, rfl, rfl, e1, e2, Nh hd, p, q, n, n', ss, ss', as, as', rfl, h1, h2, k⟩
theorem eq_self {n : Int} {ss : List (Int × Int)} {as : List Ar} : (decide (n = n) && PyData.eqv (.tuple (ss.map encSt)) (.tuple (ss.map encSt)) && PyData.eqv (.tuple (as.map encAr)) (.tuple (as.map encAr))) = true := by
  rw [decide_eq_true rfl, (shp_sts ss).refl, (shp_ars as).refl]; rfl
theorem eqv_len : ∀ {xs ys : List PyData}, PyData.eqvAll xs ys = true → xs.length = ys.length
  | [], [], _ => rfl
  | x :: xs, y :: ys, h => by
    have h' : (PyData.eqv x y && PyData.eqvAll xs ys) = true := h
    rw [List.length_cons, List.length_cons, eqv_len (Bool.and_eq_true_iff.mp h').2]
  | [], _ :: _, h => by cases h
  | _ :: _, [], h => by cases h
theorem eqv_nel {xs ys : List PyData} (h : xs.length ≠ ys.length) : PyData.eqv (.tuple xs) (.tuple ys) = false := by
  cases e : PyData.eqv (.tuple xs) (.tuple ys) with
  | false => rfl
  | true => exact absurd (eqv_len (show PyData.eqvAll xs ys = true from e)) h
/-- a list elsewhere may be changed -/
theorem MAt.putL {CN a p : Addr} {N : Addr → Prop} {H : Hp} {xs : List V} {o : HO} {n : Int} {ss : List (Int × Int)} {as : List Ar} (h : MAt CN N H p n ss as) (ha : H a = some (.lst xs)) : MAt CN N (upd H a o) p n ss as := by
  obtain ⟨np, dx, v1, v2, lv, e, h1, h2⟩ := h
  have npa : p ≠ a := fun z => by rw [z, ha] at e; cases e
  exact ⟨np, dx, v1, v2, lv, by rw [upd_ne npa]; exact e, ((Dt.offL ha h1 (.tup (tu_map tu_st ss))).kp .putx).sub Nx.sub, ((Dt.offL ha h2 (.tup (tu_map tu_ar as))).kp .putx).sub Nx.sub⟩
/-- data by their items -/
theorem map_sq {α : Type} {f : PyData → Option α} {enc : α → PyData} : ∀ {ls : List α} {gs : List PyData}, gs.map seqOf = ls.map (fun a => seqOf (enc a)) → (∀ a ∈ ls, ∀ g, seqOf g = seqOf (enc a) → f g = some a) → gs.map f = ls.map some
  | [], [], _, _ => rfl
  | a :: ls, g :: gs, h, k => by
    rw [List.map_cons, List.map_cons] at h
    injection h with h1 h2
    rw [List.map_cons, List.map_cons, k a List.mem_cons_self g h1, map_sq h2 fun x hx => k x (List.mem_cons_of_mem _ hx)]
  | [], _ :: _, h, _ => by cases h
  | _ :: _, [], h, _ => by cases h
theorem okS_sq {α : Type} {f : PyData → Option α} {enc : α → PyData} {lim : Nat} {d : PyData} {ls : List α} {gs : List PyData} (hd : seqOf d = some gs) (h : gs.map seqOf = ls.map fun a => seqOf (enc a)) (hl : ls.length ≤ lim) (k : ∀ a ∈ ls, ∀ g, seqOf g = seqOf (enc a) → f g = some a) : okS f lim d ls := by
  refine ⟨gs, hd, ?_, map_sq h k⟩
  have := congrArg List.length h
  rw [List.length_map, List.length_map] at this
  omega
theorem take_sq {α : Type} {enc : α → PyData} {ls : List α} {gs : List PyData} {i : Nat} {a : α} {g : PyData} (h : gs.map seqOf = (ls.take i).map fun a => seqOf (enc a)) (ha : ls[i]? = some a) (hg : seqOf g = seqOf (enc a)) : (gs ++ [g]).map seqOf = (ls.take (i + 1)).map fun a => seqOf (enc a) := by
  rw [List.map_append, h, List.take_add_one, ha, List.map_append]
  show _ ++ [seqOf g] = _ ++ [seqOf (enc a)]
  rw [hg]
theorem bst {n m : Int} {ss : List (Int × Int)} {as : List Ar} (h : BaseOk n ss as) (hm : n ≤ m) : ∀ a ∈ ss, ∀ g, seqOf g = seqOf (encSt a) → chkSt m g = some a := fun a ha g hg => chkSt_sq hg ⟨⟨(h.st a ha).1.1, by have := (h.st a ha).1.2; omega⟩, by have := (h.st a ha).2.1; omega, by have := (h.st a ha).2.2; omega⟩
theorem bar {n m : Int} {ss : List (Int × Int)} {as : List Ar} (h : BaseOk n ss as) (hm : n ≤ m) : ∀ a ∈ as, ∀ g, seqOf g = seqOf (encAr a) → chkAr m g = some a := fun a ha g hg => chkAr_sq hg ⟨(h.ar a ha).1, ⟨(h.ar a ha).2.1.1, by have := (h.ar a ha).2.1.2; omega⟩, (h.ar a ha).2.2.1, by have := (h.ar a ha).2.2.2; omega⟩
theorem map_enc {α : Type} {enc : α → PyData} {ls : List α} : (ls.map enc).map seqOf = ls.map fun a => seqOf (enc a) := by rw [List.map_map]; rfl
/-- the rim and the block of such a machine -/
theorem rim_bounds {n : Int} {ss : List (Int × Int)} {as : List Ar} (h : BaseOk n ss as) : 1 ≤ rimOf ss as ∧ rimOf ss as ≤ 20 := by
  have h1 : ∀ (l : List (Int × Int)) (m : Int), (∀ p ∈ l, -20 ≤ p.2 ∧ p.2 ≤ 20) → 1 ≤ m → m ≤ 20 → 1 ≤ l.foldl widS m ∧ l.foldl widS m ≤ 20 := by
    intro l
    induction l with
    | nil => exact fun m _ a b => ⟨a, b⟩
    | cons x r ih =>
      intro m hl a b
      have hx := hl x List.mem_cons_self
      exact ih (widS m x) (fun p hp => hl p (List.mem_cons_of_mem _ hp)) (le_mx a) (mx_le b (ab_le hx.1 hx.2))
  have h2 : ∀ (l : List Ar) (m : Int), (∀ p ∈ l, p.2.1.rng) → 1 ≤ m → m ≤ 20 → 1 ≤ l.foldl widA m ∧ l.foldl widA m ≤ 20 := by
    intro l
    induction l with
    | nil => exact fun m _ a b => ⟨a, b⟩
    | cons x r ih =>
      intro m hl a b
      have hx := Mv.rngP (hl x List.mem_cons_self)
      have hy : 1 ≤ widA m x ∧ widA m x ≤ 20 := by
        unfold widA
        cases hp : x.2.1.parts with
        | none => exact ⟨a, b⟩
        | some t =>
          obtain ⟨w1, w2, ks⟩ := t
          rw [hp] at hx
          cases ks with
          | nil => exact ⟨a, b⟩
          | cons k r =>
            obtain ⟨r1, r2, _⟩ := hx.2.2 k r rfl
            exact ⟨le_mx a, mx_le b (ab_le r1 r2)⟩
      exact ih (widA m x) (fun p hp => hl p (List.mem_cons_of_mem _ hp)) hy.1 hy.2
  obtain ⟨a, b⟩ := h1 ss 1 (fun p hp => (h.st p hp).2) (by decide) (by decide)
  exact h2 as _ (fun p hp => (h.ar p hp).1) a b
theorem blk_bounds {n : Int} {ss : List (Int × Int)} {as : List Ar} (h : BaseOk n ss as) : 1 ≤ blkOf as ∧ blkOf as ≤ 100 := by
  have hb : BlkOk (as.foldl blkA (1, 1)) := BlkOk.foldl (fun a ha => (h.ar a ha).1) ⟨by decide, by decide, by decide, by decide⟩
  have e : blkOf as = (as.foldl blkA (1, 1)).2 * (((as.foldl blkA (1, 1)).1 + (as.foldl blkA (1, 1)).2 - 1) / (as.foldl blkA (1, 1)).2) := rfl
  rw [e]
  generalize as.foldl blkA (1, 1) = pp at hb
  obtain ⟨st, md⟩ := pp
  have b1 : 1 ≤ st := hb.1
  have b2 : st ≤ 20 := hb.2.1
  have b3 : 1 ≤ md := hb.2.2.1
  have b4 : md ≤ 60 := dvd60_le hb.2.2.2
  have c1 : md * ((st + md - 1) / md) ≤ st + md - 1 := Int.mul_ediv_self_le (by omega)
  have c2 : st + md - 1 < md * ((st + md - 1) / md) + md := Int.lt_mul_ediv_self_add (by omega)
  show 1 ≤ md * ((st + md - 1) / md) ∧ md * ((st + md - 1) / md) ≤ 100
  omega
theorem pass_false {X : Cx} : Passes (L2.CX X.prog X.w) X (fun _ _ _ => False) := fun pins σ H s e s' I ⟨a, B, H', cls, d, _, _, _, _, _, _, _, h⟩ => h.elim
end
end K8
set_option maxRecDepth 100000
set_option maxHeartbeats 4000000
/-! QD: the law. -/
namespace K8
open PySem PySem.Spec PyProof.Rows L2 L2H
abbrev NL : List Str := ["_law_script", "_law_hand_here", "_law_base", "_law_given", "_law_machine_here", "_law_rim_here", "_law_block_here", "_law_loose", "_law_ways", "_law_other", "_law_way", "_law_move_here", "_law_turn", "_law_start", "_law_arrow"]
def encStL (p : Int × Int) : PyData := .list [.int p.1, .int p.2]
def encArL (p : Ar) : PyData := .list [.int p.1, p.2.1.enc, .int p.2.2]
section
variable {P : Program} {w : World} {K : PySem.W.Frag} {mg : Str → Option Value} {base : Heap}
def spLaw (K : PySem.W.Frag) : Sp := fun vs H Q _ => ∃ (a : Addr) (ns : List Int), vs = [.ref a] ∧ SqL K H a (ns.map V.int) ∧ ns.length ≤ 63 ∧ ∀ H', Q (.bl true) H'
theorem sc_law : FnScope NL ["_law_script"] (defScope (top 55)) := ⟨rfl, rfl, rfl, by decide +kernel, rfl, by decide +kernel, by decide +kernel⟩
/-- list(x), the new list's place told -/
def rTupL (K : PySem.W.Frag) : List V → Hp → VK → Prop := fun xs H Q => ∃ p ys, xs = [.ref p] ∧ (SqL K H p ys ∨ SqT K H p ys) ∧ ∀ l, H l = none → Q (.ref l) (upd H l (.lst ys))
theorem call_lstL {X : Cx} : CallR X (.type "list") (rTupL X.K) := call_list_of
/-- all that the law calls -/
structure Calls (P : Program) (w : World) (K : PySem.W.Frag) (mg : Str → Option Value) (base : Heap) (CN CB g : Addr) : Prop where
  hand : Ok P w K mg base CX0 1 "_law_hand" ["_law_script"] (spHand (K := K))
  draw : Ok P w K mg base CX0 2 "_law_draw" ["_law_hand_here", "_law_many"] spDraw
  wh1 : Ok P w K mg base CX0 1 "_law_whole" ["_law_thing"] spWh1
  shape : Ok P w K mg base CX0 4 "_law_shape" ["_law_hand_here", "_law_wide"] spShape
  mach : Ok P w K mg base CX0 7 "_law_machine" ["_law_hand_here", "_law_shape_here", "_law_many"] spMach
  shown : Ok P w K mg base CX0 3 "_law_shown" ["_law_hand_here", "_law_things"] spShown
  rim : Ok P w K mg base CX0 1 "_law_rim" ["_law_starts", "_law_arrows"] spLRim
  blk : Ok P w K mg base CX0 2 "_law_block" ["_law_arrows"] spLBlk
  told : Ok P w K mg base CX0 8 "_law_told" ["_law_stations", "_law_starts", "_law_arrows"] spTold
  mtold : Ok P w K mg base CX0 5 "_law_move_told" ["_law_move_here"] spMTold
  oddm : Ok P w K mg base CX0 4 "_law_odd_move" ["_law_hand_here"] (spOdd fun d => chkM d = none)
  rooms : Ok P w K mg base CX0 3 "_law_rooms_hold" ["_law_hand_here", "_law_machine_here", "_law_rim_here", "_law_block_here"] (spRooms CN)
  moves : Ok P w K mg base CX0 6 "_law_moves_hold" ["_law_hand_here", "_law_arrows"] spMoves
  refuse : Ok P w K mg base CX0 9 "_law_refusals_hold" ["_law_hand_here", "_law_base"] spRefuse
  great : Ok P w K mg base CX0 9 "_law_great_holds" ["_law_hand_here"] spGreat
  init : ∃ fI fdI, Mk K CN fI ∧ FnOk P w K mg base (L2.CX P w) 6 fI fdI ["self", "stations", "starts", "arrows"] (spInit CN CB) ∧ Binds K fdI ["self", "stations", "starts", "arrows"] []
  eq : ∃ fde, FnOk P w K mg base CX0 1 g fde ["self", "other"] (spEqM CN) ∧ Binds K fde ["self", "other"] []
theorem ok_law {CN CB g f : Addr} {fd : FuncData} (B : Bn mg) (D : Fun K "law" "law" (top 55) f fd) (M : MachQ K mg CN g) (C : Calls P w K mg base CN CB g) : FnOk P w K mg base CX0 10 f fd ["_law_script"] (spLaw K) := by
  obtain ⟨fI, fdI, MK, FI, bI⟩ := C.init
  obtain ⟨fde, FE, bE⟩ := C.eq
  refine D.ok sc_law (fun vs H Q E h => ?_) (fun cdv A outer s H vs Q E hr h => ?_)
  · obtain ⟨a, ns, rfl, _⟩ := h; rfl
  · obtain ⟨a, ns, rfl, hS, hlen, k⟩ := h
    have r1 : Room 1 _ := hr.mono (by decide)
    have r2 : Room 2 _ := hr.mono (by decide)
    have r3 : Room 3 _ := hr.mono (by decide)
    have r4 : Room 4 _ := hr.mono (by decide)
    have r5 : Room 5 _ := hr.mono (by decide)
    have r6 : Room 6 _ := hr.mono (by decide)
    have r7 : Room 7 _ := hr.mono (by decide)
    have r8 : Room 8 _ := hr.mono (by decide)
    have r9 : Room 9 _ := hr
    refine ⟨_, pss_cons (ps_set (i := 1) sc_law.nd rfl (Or.inr rfl) (pc C.hand r1 pass0 (pa_cons (pv 0) pa_nil)))
      (pss_cons (ps_set (i := 2) sc_law.nd rfl (Or.inl rfl) (pc C.mach r7 pass0 (pa_cons (pv 1) (pa_cons (pc C.shape r4 pass0 (pa_cons (pv 1) (pa_cons (pe_cmpR eqI (pc C.draw r2 pass0 (pa_cons (pv 1) (pa_cons pe_int pa_nil))) pe_int (nomark _)) pa_nil))) (pa_cons pe_int pa_nil)))))
      (pss_cons (ps_set (i := 3) sc_law.nd rfl (Or.inl rfl) (pe_lst (pa_cons (pc C.shown r3 pass0 (pa_cons (pv 1) (pa_cons (pe_lc (te := tCall spShown [] E0 (tCons (tVar 1) (tCons (tVar 13) tNil))) (own := [("_law_start", 13)]) (g := gName 13) rfl sc_law.nd (pi_dt (pe_ix ix_dt (pv 2) pe_int (fun _ _ => rfl))) (blkOk_by (N := NL) (sc := defScope (top 55)) (by decide +kernel))
            (fun _ _ _ _ _ => pg_name (i := 13) sc_law.nd rfl (Or.inl rfl)) (fun _ _ _ _ _ => pts_nil) (fun _ _ _ _ _ => pc C.shown r3 pass0 (pa_cons (pv 1) (pa_cons (pv 13) pa_nil)))) pa_nil)))
          (pa_cons (pc C.shown r3 pass0 (pa_cons (pv 1) (pa_cons (pe_lc (te := tCall spShown [] E0 (tCons (tVar 1) (tCons (tVar 14) tNil))) (own := [("_law_arrow", 14)]) (g := gName 14) rfl sc_law.nd (pi_dt (pe_ix ix_dt (pv 2) pe_int (fun _ _ => rfl))) (blkOk_by (N := NL) (sc := defScope (top 55)) (by decide +kernel))
            (fun _ _ _ _ _ => pg_name (i := 14) sc_law.nd rfl (Or.inl rfl)) (fun _ _ _ _ _ => pts_nil) (fun _ _ _ _ _ => pc C.shown r3 pass0 (pa_cons (pv 1) (pa_cons (pv 14) pa_nil)))) pa_nil))) pa_nil))))
      (pss_cons (ps_set (i := 4) sc_law.nd rfl (Or.inl rfl) (pe_make MK FI r7 (by rfl) M.mgC bI .nil pass_false (pa_cons (pe_ix ix_dt (pv 2) pe_int (fun _ _ => rfl)) (pa_cons (pe_ix ix_dt (pv 3) pe_int (fun _ _ => rfl)) (pa_cons (pe_ix ix_dt (pv 3) pe_int (fun _ _ => rfl)) pa_nil)))))
      (pss_cons (ps_set (i := 5) sc_law.nd rfl (Or.inl rfl) (pc C.rim r1 pass0 (pa_cons (pe_ix ix_dt (pv 2) pe_int (fun _ _ => rfl)) (pa_cons (pe_ix ix_dt (pv 2) pe_int (fun _ _ => rfl)) pa_nil))))
      (pss_cons (ps_set (i := 6) sc_law.nd rfl (Or.inl rfl) (pc C.blk r2 pass0 (pa_cons (pe_ix ix_dt (pv 2) pe_int (fun _ _ => rfl)) pa_nil)))
      (pss_cons (ps_if (PW.pt (pw_or (pt_not (pt_val (pc C.wh1 r1 pass0 (pa_cons (pe_fld (pv 4) rfl) pa_nil)))) (pw_or (pt_cmpR neI (pe_fld (pv 4) rfl) (pv 5) (nomark _)) (pw_or (pt_not (pt_val (pc C.wh1 r1 pass0 (pa_cons (pe_fld (pv 4) rfl) pa_nil)))) (pw_or1 (pt_cmpR neI (pe_fld (pv 4) rfl) (pv 6) (nomark _))))))) (pss_one (ps_ret pe_bl)) pss_nil)
      (pss_cons (ps_if (pt_cmpR (ne_dt hr.units) (pc C.told r8 pass0 (pa_cons (pe_ix ix_dt (pv 2) pe_int (fun _ _ => rfl)) (pa_cons (pe_ix ix_dt (pv 3) pe_int (fun _ _ => rfl)) (pa_cons (pe_ix ix_dt (pv 3) pe_int (fun _ _ => rfl)) pa_nil))))
          (pe_lst (pa_cons pe_str (pa_cons (pe_ix ix_dt (pv 2) pe_int (fun _ _ => rfl)) (pa_cons (pe_callTy call_tupD (by rfl) B.tuple b_tuple (pa_cons (pe_ix ix_dt (pv 2) pe_int (fun _ _ => rfl)) pa_nil)) (pa_cons (pe_callTy call_tupD (by rfl) B.tuple b_tuple (pa_cons (pe_ix ix_dt (pv 2) pe_int (fun _ _ => rfl)) pa_nil)) pa_nil))))) (nomark _)) (pss_one (ps_ret pe_bl)) pss_nil)
      (pss_cons (ps_if (PW.pt (pw_or (pt_not (pt_cmpR (eq_own M FE bE r1) (pv 4) (pe_make MK FI r7 (by rfl) M.mgC bI .nil pass_false (pa_cons (pe_ix ix_dt (pv 2) pe_int (fun _ _ => rfl)) (pa_cons (pe_ix ix_dt (pv 2) pe_int (fun _ _ => rfl)) (pa_cons (pe_ix ix_dt (pv 2) pe_int (fun _ _ => rfl)) pa_nil)))) (nomark _)))
          (pw_or1 (pt_cmpR (eq_own M FE bE r1) (pv 4) (pe_make MK FI r7 (by rfl) M.mgC bI .nil pass_false (pa_cons (pe_op op_add (pe_ix ix_dt (pv 2) pe_int (fun _ _ => rfl)) pe_int) (pa_cons (pe_ix ix_dt (pv 2) pe_int (fun _ _ => rfl)) (pa_cons (pe_ix ix_dt (pv 2) pe_int (fun _ _ => rfl)) pa_nil)))) (nomark _))))) (pss_one (ps_ret pe_bl)) pss_nil)
      (pss_cons (ps_if (PW.pt (pw_or (pt_cmpR (eq_own M FE bE r1) (pv 4) (pe_make MK FI r7 (by rfl) M.mgC bI .nil pass_false (pa_cons (pe_ix ix_dt (pv 2) pe_int (fun _ _ => rfl)) (pa_cons (pe_op op_catD (pe_ix ix_dt (pv 2) pe_int (fun _ _ => rfl)) (pe_lst (pa_cons (pe_tup (pa_cons pe_int (pa_cons pe_int pa_nil))) pa_nil))) (pa_cons (pe_ix ix_dt (pv 2) pe_int (fun _ _ => rfl)) pa_nil)))) (nomark _))
          (pw_or1 (pt_cmpR (eq_own M FE bE r1) (pv 4) (pe_make MK FI r7 (by rfl) M.mgC bI .nil pass_false (pa_cons (pe_ix ix_dt (pv 2) pe_int (fun _ _ => rfl)) (pa_cons (pe_ix ix_dt (pv 2) pe_int (fun _ _ => rfl)) (pa_cons (pe_slice sl_drop (pe_ix ix_dt (pv 2) pe_int (fun _ _ => rfl)) (po_some pe_int) po_none) pa_nil)))) (nomark _))))) (pss_one (ps_ret pe_bl)) pss_nil)
      (pss_cons (ps_setLc (te := tCB (rTupL K) (tCons (tVar 13) tNil)) (i := 7) (own := [("_law_start", 13)]) (g := gName 13) rfl sc_law.nd rfl rfl (sw_true rfl rfl rfl (by decide +kernel)) (pi_dt (pe_ix ix_dt (pv 2) pe_int (fun _ _ => rfl))) (blkOk_by (N := NL) (sc := defScope (top 55)) (by decide +kernel))
            (fun _ _ _ _ _ => pg_name (i := 13) sc_law.nd rfl (Or.inl rfl)) (fun _ _ _ _ _ => pts_nil) (fun _ _ _ _ _ => pe_callTy call_lstL (by rfl) B.list b_list (pa_cons (pv 13) pa_nil)))
      (pss_cons (ps_setLc (te := tCB (rTupL K) (tCons (tVar 14) tNil)) (i := 8) (own := [("_law_arrow", 14)]) (g := gName 14) rfl sc_law.nd rfl rfl (sw_true rfl rfl rfl (by decide +kernel)) (pi_dt (pe_ix ix_dt (pv 2) pe_int (fun _ _ => rfl))) (blkOk_by (N := NL) (sc := defScope (top 55)) (by decide +kernel))
            (fun _ _ _ _ _ => pg_name (i := 14) sc_law.nd rfl (Or.inl rfl)) (fun _ _ _ _ _ => pts_nil) (fun _ _ _ _ _ => pe_callTy call_lstL (by rfl) B.list b_list (pa_cons (pv 14) pa_nil)))
      (pss_cons (ps_set (i := 9) sc_law.nd rfl (Or.inl rfl) (pe_make MK FI r7 (by rfl) M.mgC bI .nil pass_false (pa_cons (pe_ix ix_dt (pv 2) pe_int (fun _ _ => rfl)) (pa_cons (pv 7) (pa_cons (pv 8) pa_nil)))))
      (pss_cons (ps_expr (pe_bm PySem.F.plainAttrs_list PySem.F.slot_list_append PySem.F.type_list_append mt_append (pv 7) (pa_cons (pe_lst (pa_cons pe_int (pa_cons pe_int pa_nil))) pa_nil)))
      (pss_cons (ps_set (i := 10) sc_law.nd rfl (Or.inl rfl) (pe_ix ix_h (pv 8) pe_int (fun _ _ => rfl)))
      (pss_cons (ps_asg (pe_ix ix_dt (pv 2) pe_int (fun _ _ => rfl)) (pg_sub (pv 10) pe_int set_h))
      (pss_cons (ps_expr (pe_bm PySem.F.plainAttrs_list PySem.F.slot_list_append PySem.F.type_list_append mt_append (pv 8) (pa_cons (pe_lst (pa_cons pe_int (pa_cons (pe_tup (pa_cons pe_str pa_nil)) (pa_cons pe_int pa_nil)))) pa_nil)))
      (pss_cons (ps_if (PW.pt (pw_or (pt_not (pt_cmpR (eq_own M FE bE r1) (pv 9) (pv 4) (nomark _))) (pw_or (pt_cmpR (ne_dt hr.units) (pe_fld (pv 9) rfl) (pe_callTy call_tupD (by rfl) B.tuple b_tuple (pa_cons (pe_ix ix_dt (pv 2) pe_int (fun _ _ => rfl)) pa_nil)) (nomark _))
          (pw_or1 (pt_cmpR (ne_dt hr.units) (pe_fld (pv 9) rfl) (pe_callTy call_tupD (by rfl) B.tuple b_tuple (pa_cons (pe_ix ix_dt (pv 2) pe_int (fun _ _ => rfl)) pa_nil)) (nomark _)))))) (pss_one (ps_ret pe_bl)) pss_nil)
      (pss_cons (ps_for PassesOwn.never rfl (pi_dt (pe_lst (pa_cons (pc C.oddm r4 pass0 (pa_cons (pv 1) pa_nil)) (pa_cons (pc C.oddm r4 pass0 (pa_cons (pv 1) pa_nil)) pa_nil)))) (pg_name (i := 11) sc_law.nd rfl (Or.inl rfl))
        (pss_one (ps_if (pt_cmpR (ne_dt hr.units) (pc C.mtold r5 pass0 (pa_cons (pv 11) pa_nil)) (pe_lst (pa_cons pe_str (pa_cons pe_bl pa_nil))) (nomark _)) (pss_one (ps_ret pe_bl)) pss_nil)))
      (pss_cons (ps_if (PW.pt (pw_or (pt_not (pt_val (pc C.rooms r3 pass0 (pa_cons (pv 1) (pa_cons (pv 4) (pa_cons (pv 5) (pa_cons (pv 6) pa_nil))))))) (pw_or1 (pt_not (pt_val (pc C.moves r6 pass0 (pa_cons (pv 1) (pa_cons (pe_ix ix_dt (pv 2) pe_int (fun _ _ => rfl)) pa_nil)))))))) (pss_one (ps_ret pe_bl)) pss_nil)
      (pss_cons (ps_for PassesOwn.never rfl (pi_range1 (by rfl) B.range (pa_cons pe_int pa_nil)) (pg_name (i := 12) sc_law.nd rfl (Or.inl rfl))
        (pss_one (ps_if (pt_not (pt_val (pc C.refuse r9 pass0 (pa_cons (pv 1) (pa_cons (pv 2) pa_nil))))) (pss_one (ps_ret pe_bl)) pss_nil)))
      (pss_one (ps_ret (pe_or (pe_cmpR op_gt (pc C.draw r2 pass0 (pa_cons (pv 1) (pa_cons pe_int pa_nil))) pe_int (nomark _)) (pe_one (pc C.great r9 pass0 (pa_cons (pv 1) pa_nil)))))))))))))))))))))))))), ?_⟩
    refine ⟨_, rfl, a, ns, rfl, hS, hlen, fun hd H1 nh s1 hH1 => ?_⟩
    refine ⟨_, rfl, _, rfl, _, rfl, hd, 2, rfl, hH1, by decide, by decide, fun b0 H2 _ _ kh2 => ⟨_, _, rfl, rfl, ?_⟩⟩
    refine ⟨hd, _, rfl, kh2.2, fun n kk ms sh H3 hsb hms kh3 hsh => ?_⟩
    refine ⟨hd, n, kk, ms, sh, rfl, kh3.2, hsb, hms, hsh, fun n ss as bs H4 hB kh4 hbs => ?_⟩
    have hH := kh4.2
    clear kh4 hsh kh3 kh2 hH1 s1 nh
    have n1 := hB.n1
    have n8 := hB.n8
    have sl := hB.sl
    have al := hB.al
    have ap := hB.ap
    -- given: the starts
    refine ⟨_, rfl, _, rfl, Nh hd, _, _, 1, _, hbs, rfl, rfl, rfl, fun w1 hw1 => ⟨Nh hd, _, _, hw1, rfl, fun L nL => ?_⟩⟩
    refine lc_dt rfl (fun i H' => Kh hd H4 H' ∧ ∃ vs gs, H' L = some (.lst vs) ∧ DtL (Nx (Nh hd) L) H' gs vs ∧ vs.length = i ∧ gs.map seqOf = (ss.take i).map fun a => seqOf (encSt a)) ⟨hH.ks (same_new nL), [], [], upd_same, .nil, rfl, rfl⟩ (fun i H' _ ⟨k1, _⟩ => hw1.kp k1.1) (fun i e x H' hi ⟨k1, vs, gs, hL, hdl, hvl, hg⟩ hx => ?_) (fun H' ⟨k1, vs, gs, hL, hdl, hvl, hg⟩ => ?_)
    · obtain ⟨p, hp, rfl⟩ := map_get hi
      have hil := (List.getElem?_eq_some_iff.mp hp).1
      refine ⟨rfl, _, rfl, _, rfl, hd, Nx (Nh hd) L, _, x, _, rfl, k1.2, Nx.sub, (k1.2.fn).off hL, Dt.offL hL hx (tu_st p), rfl, fun d' y H'' hd' kh hy => ?_⟩
      have k2 := k1.trans kh
      have nLh : Nh hd L := hH.fn L nL
      have hL2 := kh.1 _ _ nLh hL
      refine ⟨vs, hL2, by rw [sizeLine_eq]; omega, k2.put hH nL, _, gs ++ [d'], upd_same, ?_, by rw [List.length_append, hvl]; rfl, take_sq hg hp hd'⟩
      exact DtL.app ((hdl.kp fun b o n e => kh.1 b o n.1 e).kp .putx) (.one (hy.kp .putx))
    rw [List.length_map, List.take_length] at hg
    have nLh : Nh hd L := hH.fn L nL
    have hgA : Dt (Nh hd) H' (.list gs) (.ref L) := .lst nLh hL (hdl.sub Nx.sub)
    refine ⟨hd, Nh hd, _, _, _, rfl, k1.2, fun _ h => h, k1.2.fn, hgA, rfl, fun dA vA H5 hdA kh5 hvA => ?_⟩
    have k5 := k1.trans kh5
    clear hgA nLh hdl hL k1
    -- given: the arrows
    refine ⟨_, rfl, _, rfl, Nh hd, _, _, 2, _, hbs.kp k5.1, rfl, rfl, rfl, fun w2 hw2 => ⟨Nh hd, _, _, hw2, rfl, fun L2 nL2 => ?_⟩⟩
    refine lc_dt rfl (fun i H' => Kh hd H5 H' ∧ ∃ vs gs, H' L2 = some (.lst vs) ∧ DtL (Nx (Nh hd) L2) H' gs vs ∧ vs.length = i ∧ gs.map seqOf = (as.take i).map fun a => seqOf (encAr a)) ⟨k5.2.ks (same_new nL2), [], [], upd_same, .nil, rfl, rfl⟩ (fun i H' _ ⟨k1, _⟩ => hw2.kp k1.1) (fun i e x H' hi ⟨k1, vs, gs, hL, hdl, hvl, hg⟩ hx => ?_) (fun H6 ⟨k6, vs2, gsB, hL2, hdl2, hvl2, hgB⟩ => ?_)
    · obtain ⟨p, hp, rfl⟩ := map_get hi
      have hil := (List.getElem?_eq_some_iff.mp hp).1
      refine ⟨rfl, _, rfl, _, rfl, hd, Nx (Nh hd) L2, _, x, _, rfl, k1.2, Nx.sub, (k1.2.fn).off hL, Dt.offL hL hx (tu_ar p), rfl, fun d' y H'' hd' kh hy => ?_⟩
      have k2 := k1.trans kh
      have nLh : Nh hd L2 := k5.2.fn L2 nL2
      have hL2 := kh.1 _ _ nLh hL
      refine ⟨vs, hL2, by rw [sizeLine_eq]; omega, k2.put k5.2 nL2, _, gs ++ [d'], upd_same, ?_, by rw [List.length_append, hvl]; rfl, take_sq hg hp hd'⟩
      exact DtL.app ((hdl.kp fun b o n e => kh.1 b o n.1 e).kp .putx) (.one (hy.kp .putx))
    rw [List.length_map, List.take_length] at hgB
    have nLh2 : Nh hd L2 := k5.2.fn L2 nL2
    have hgB2 : Dt (Nh hd) H6 (.list gsB) (.ref L2) := .lst nLh2 hL2 (hdl2.sub Nx.sub)
    refine ⟨hd, Nh hd, _, _, _, rfl, k6.2, fun _ h => h, k6.2.fn, hgB2, rfl, fun dB vB H7 hdB kh7 hvB => ⟨sz_2, fun gl ngl => ?_⟩⟩
    have k57 := k6.trans kh7
    have k7 := k5.trans k57
    have s8 := same_new (o := .lst [vA, vB]) ngl
    have k8 := k7.same s8
    have hgv : Dt (Nh hd) (upd H7 gl (.lst [vA, vB])) (.list [dA, dB]) (.ref gl) := Dt.newL (k7.2.none ngl) ngl (.cons (hvA.kp k57.1) (.cons hvB .nil))
    clear hgB2 nLh2 hdl2 hL2 k6
    generalize upd H7 gl (.lst [vA, vB]) = H8 at k8 hgv
    have hokA : ∀ m, n ≤ m → okS (chkSt m) 60 dA ss := fun m hm => okS_sq hdA hg (by omega) (bst hB hm)
    have hokB : ∀ m, n ≤ m → okS (chkAr m) 4000 dB as := fun m hm => okS_sq hdB hgB (by omega) (bar hB hm)
    have hokG : okMach (.int n) dA dB n ss as := ⟨rfl, n1, by omega, hokA n (Int.le_refl _), hokB n (Int.le_refl _)⟩
    have hokL : ∀ m, n ≤ m → m ≤ 200 → okMach (.int m) (.list (ss.map encSt)) (.list (as.map encAr)) m ss as := fun m hm h2 => ⟨rfl, by omega, h2, okS_sq rfl map_enc (by omega) (bst hB hm), okS_sq rfl map_enc (by omega) (bar hB hm)⟩
    -- machine
    have hb8 := hbs.kp k8.1
    refine ⟨_, rfl, Nh hd, _, _, 0, _, hb8, rfl, rfl, rfl, fun w hw => ?_⟩
    cases hw
    refine ⟨_, rfl, Nh hd, _, _, 0, _, hgv, rfl, rfl, rfl, fun a1 ha1 => ⟨_, rfl, Nh hd, _, _, 1, _, hgv, rfl, rfl, rfl, fun a2 ha2 => ?_⟩⟩
    refine fun p dx np nd ne => mk_ok (E := fun _ _ _ => False) k8.2 (.int n) ha1 ha2 hokG np nd ne fun H9 s9 hM => ⟨rfl, ?_⟩
    clear ne nd np dx
    have k9 := k8.same s9
    have hb9 := hb8.same s9
    have hg9 := hgv.same s9
    clear ha1 ha2 hb8 hgv k8
    -- rim, block
    refine ⟨_, rfl, Nh hd, _, _, 1, _, hb9, rfl, rfl, rfl, fun w1 h1 => ⟨_, rfl, Nh hd, _, _, 2, _, hb9, rfl, rfl, rfl, fun w2 h2 => ⟨Nh hd, ss, as, w1, w2, rfl, h1, h2, fun a ha => (hB.ar a ha).1, ?_⟩⟩⟩
    refine ⟨_, rfl, Nh hd, _, _, 2, _, hb9, rfl, rfl, rfl, fun w3 h3 => ⟨Nh hd, as, w3, rfl, h3, fun a ha => (hB.ar a ha).1, fun H10 s10 => ?_⟩⟩
    have k10 := k9.same s10
    have hb10 := hb9.same s10
    have hg10 := hg9.same s10
    have hM10 := hM.kp (.same s10)
    clear h1 h2 h3 hb9 hg9 hM k9
    obtain ⟨np, dx, v1, v2, lv, hp, hv1, hv2⟩ := id hM10
    -- its attributes
    refine ⟨_, rfl, p, CN, dx, _, _, rfl, hp, M.cl, M.n4, l6_rim, _, rfl, _, rfl, itno rfl ?_⟩
    refine ⟨_, rfl, p, CN, dx, _, _, rfl, hp, M.cl, M.n4, l6_rim, _, rfl, _, _, rfl, rfl, _, rfl, itno (by rw [decide_eq_true rfl]; rfl) ?_⟩
    refine ⟨_, rfl, p, CN, dx, _, _, rfl, hp, M.cl, M.n5, l6_blk, _, rfl, _, rfl, itno rfl ?_⟩
    refine ⟨_, rfl, p, CN, dx, _, _, rfl, hp, M.cl, M.n5, l6_blk, _, rfl, _, _, rfl, rfl, _, rfl, itno (by rw [decide_eq_true rfl]; rfl) ?_⟩
    -- told
    refine ⟨_, rfl, Nh hd, _, _, 0, _, hb10, rfl, rfl, rfl, fun w hw => ?_⟩
    cases hw
    refine ⟨_, rfl, Nh hd, _, _, 0, _, hg10, rfl, rfl, rfl, fun a1 ha1 => ⟨_, rfl, Nh hd, _, _, 1, _, hg10, rfl, rfl, rfl, fun a2 ha2 => ?_⟩⟩
    refine told_ok (E := E0) (.int n) ha1 ha2 k10.2.fn hokG fun y H11 s11 hy => ?_
    have k11 := k10.same s11
    have hb11 := hb10.same s11
    refine ⟨_, rfl, Nh hd, _, _, 0, _, hb11, rfl, rfl, rfl, fun w hw => ?_⟩
    cases hw
    refine ⟨_, rfl, Nh hd, _, _, 1, _, hb11, rfl, rfl, rfl, fun w1 h1 => ⟨Nh hd, _, w1, _, rfl, h1, rfl, k11.2.fn, fun t1 H12 s12 ht1 => ?_⟩⟩
    have k12 := k11.same s12
    refine ⟨_, rfl, Nh hd, _, _, 2, _, hb11.same s12, rfl, rfl, rfl, fun w2 h2 => ⟨Nh hd, _, w2, _, rfl, h2, rfl, k12.2.fn, fun t2 H13 s13 ht2 => ⟨szl_100 (by show 4 ≤ 100; decide), fun q nq => ?_⟩⟩⟩
    have k13 := k12.same s13
    have s14 := same_new (o := .lst [.str "good", .int n, t1, t2]) nq
    refine ⟨Nh hd, _, goodD n ss as, hy.same ((s12.trans s13).trans s14), Dt.newL (k13.2.none nq) nq (.cons (.str _) (.cons (.int _) (.cons (ht1.same s13) (.cons ht2 .nil)))), shp_good.shaped (by omega), shp_good.shaped (by omega), _, rfl, ?_⟩
    refine itno (by show (!PyData.eqv _ _) = false; rw [shp_good.refl]; rfl) ?_
    have k14 := k13.same s14
    have s1014 := ((s11.trans s12).trans s13).trans s14
    have hM14 := hM10.kp (N := Nh hd) (.same s1014)
    have hb14 := hb10.same s1014
    clear hb10 hg10 hM10 hb11 h1 h2 ht1 ht2 hy ha1 ha2 np hp hv1 hv2 k10 k11 k12 k13
    show tSeq _ _ _ _ (upd H13 q (.lst [.str "good", .int n, t1, t2]))
    generalize upd H13 q (.lst [.str "good", .int n, t1, t2]) = H14 at k14 hM14 hb14
    -- rebase
    have hH14 := k14.2
    have mk2 : ∀ m, n ≤ m → m ≤ 200 → okMach (.int m) (.list (ss.map encSt)) (.list (as.map encAr)) m ss as := hokL
    -- the same again; one station more
    refine ⟨_, rfl, _, rfl, Nh hd, _, _, 0, _, hb14, rfl, rfl, rfl, fun w hw => ?_⟩
    cases hw
    refine ⟨_, rfl, Nh hd, _, _, 1, _, hb14, rfl, rfl, rfl, fun w1 h1 => ⟨_, rfl, Nh hd, _, _, 2, _, hb14, rfl, rfl, rfl, fun w2 h2 => ?_⟩⟩
    refine fun q dx nq nd ne => mk_ok (E := fun _ _ _ => False) hH14 (.int n) h1 h2 (hokL n (Int.le_refl _) (by omega)) nq nd ne fun H15 s15 hMq => ⟨rfl, ?_⟩
    clear ne nd nq dx h1 h2
    refine eq_rd (hM14.kp (.same s15)) hMq ⟨_, rfl, itno (by rw [eq_self]; rfl) ?_⟩
    have hb15 := hb14.same s15
    refine ⟨_, rfl, _, rfl, Nh hd, _, _, 0, _, hb15, rfl, rfl, rfl, fun w hw => ?_⟩
    cases hw
    refine ⟨_, _, rfl, rfl, _, rfl, Nh hd, _, _, 1, _, hb15, rfl, rfl, rfl, fun w1 h1 => ⟨_, rfl, Nh hd, _, _, 2, _, hb15, rfl, rfl, rfl, fun w2 h2 => ?_⟩⟩
    refine fun q2 dx nq nd ne => mk_ok (E := fun _ _ _ => False) (hH14.same s15) (.int (n + 1)) h1 h2 (hokL (n + 1) (by omega) (by omega)) nq nd ne fun H16 s16 hMq2 => ⟨rfl, ?_⟩
    clear ne nd nq dx h1 h2
    have s1516 := s15.trans s16
    refine eq_rd (hM14.kp (.same s1516)) hMq2 ⟨_, rfl, itno (by rw [decide_eq_false (show ¬ n = n + 1 by omega)]; rfl) ?_⟩
    clear hMq hMq2 hb15
    have hb16 := hb14.same s1516
    -- one start more; one arrow less
    refine ⟨_, rfl, _, rfl, Nh hd, _, _, 0, _, hb16, rfl, rfl, rfl, fun w hw => ?_⟩
    cases hw
    refine ⟨_, rfl, Nh hd, _, _, 1, _, hb16, rfl, rfl, rfl, fun w1 h1 => ⟨sz_2, fun q1 nq1 => ⟨sz_1, fun q2 nq2 => ?_⟩⟩⟩
    have hH16 := hH14.same s1516
    have sa := same_new (o := .tup [.int 0, .int 0]) nq1
    have sb := same_up (o := .lst [.ref q1]) sa nq2
    have d1 : Dt (Nh hd) (upd H16 q1 (.tup [.int 0, .int 0])) (encSt (0, 0)) (.ref q1) := Dt.newT (hH16.none nq1) nq1 (.cons (.int _) (.cons (.int _) .nil))
    have d2 : Dt (Nh hd) (upd (upd H16 q1 (.tup [.int 0, .int 0])) q2 (.lst [.ref q1])) (.list [encSt (0, 0)]) (.ref q2) := Dt.newL (hH16.none (sa.free nq2)) nq2 (.cons d1 .nil)
    refine ⟨Nh hd, _, _, h1.same sb, d2, by rw [List.length_map]; show _ + 1 ≤ _; omega, (hH16.same sb).fn, fun y H17 s17 hy => ?_⟩
    have s1617 := sb.trans s17
    have hy' : Dt (Nh hd) H17 (.list ((ss ++ [(0, 0)]).map encSt)) y := by rw [List.map_append]; exact hy
    refine ⟨_, rfl, Nh hd, _, _, 2, _, hb16.same s1617, rfl, rfl, rfl, fun w2 h2 => ?_⟩
    refine fun q3 dx nq nd ne => mk_ok (E := fun _ _ _ => False) (hH16.same s1617) (.int n) hy' h2 (ss := ss ++ [(0, 0)]) (as := as) ⟨rfl, n1, by omega, okS_sq rfl map_enc (by rw [List.length_append]; show _ + 1 ≤ _; omega) (fun a ha g hg => ?_), okS_sq rfl map_enc (by omega) (bar hB (Int.le_refl _))⟩ nq nd ne fun H18 s18 hMq => ⟨rfl, ?_⟩
    · rcases List.mem_append.mp ha with e | e
      · exact bst hB (Int.le_refl _) a e g hg
      · rw [List.mem_singleton.mp e] at hg ⊢
        exact chkSt_sq hg ⟨⟨Int.le_refl _, by show 0 < n; omega⟩, by decide, by decide⟩
    clear ne nd nq dx h1 h2 d1 d2 hy hy'
    have s1418 := (s1516.trans s1617).trans s18
    refine eq_rd (hM14.kp (.same s1418)) hMq ⟨_, rfl, itno (by rw [eqv_nel (xs := ss.map encSt) (by rw [List.length_map, List.length_map, List.length_append]; show ss.length ≠ ss.length + 1; omega), Bool.and_false, Bool.false_and]) ?_⟩
    clear hMq s17 sb sa
    have hb18 := hb14.same s1418
    have hH18 := hH14.same s1418
    refine ⟨_, rfl, _, rfl, Nh hd, _, _, 0, _, hb18, rfl, rfl, rfl, fun w hw => ?_⟩
    cases hw
    refine ⟨_, rfl, Nh hd, _, _, 1, _, hb18, rfl, rfl, rfl, fun w1 h1 => ⟨_, rfl, Nh hd, _, _, 2, _, hb18, rfl, rfl, rfl, fun w2 h2 => ?_⟩⟩
    refine ⟨1, rfl, Nh hd, _, 1, rfl, rfl, h2, by rw [List.length_map]; omega, hH18.fn, fun y H19 s19 hy => ?_⟩
    have hy' : Dt (Nh hd) H19 (.list ((as.drop 1).map encAr)) y := by rw [List.map_drop]; exact hy
    refine fun q4 dx nq nd ne => mk_ok (E := fun _ _ _ => False) (hH18.same s19) (.int n) (h1.same s19) hy' (ss := ss) (as := as.drop 1) ⟨rfl, n1, by omega, okS_sq rfl map_enc (by omega) (bst hB (Int.le_refl _)), okS_sq rfl map_enc (by rw [List.length_drop]; omega) (fun a ha => bar hB (Int.le_refl _) a (List.mem_of_mem_drop ha))⟩ nq nd ne fun H20 s20 hMq => ⟨rfl, ?_⟩
    clear ne nd nq dx h1 h2 hy hy'
    have s1420 := (s1418.trans s19).trans s20
    refine eq_rd (hM14.kp (.same s1420)) hMq ⟨_, rfl, itno (by rw [eqv_nel (xs := as.map encAr) (by rw [List.length_map, List.length_map, List.length_drop]; omega), Bool.and_false]) ?_⟩
    clear hMq hb18 hb16
    have hb20 := hb14.same s1420
    have hM20 := hM14.kp (N := Nh hd) (.same s1420)
    have hH20 := hH14.same s1420
    -- loose
    refine ⟨_, rfl, Nh hd, _, _, 1, _, hb20, rfl, rfl, rfl, fun w1 h1 => ⟨Nh hd, _, _, h1, rfl, fun L nL => ?_⟩⟩
    refine lc_dt rfl (fun i H' => Kh hd H20 H' ∧ ∃ vs, H' L = some (.lst vs) ∧ DtL (Nx (Nh hd) L) H' ((ss.take i).map encStL) vs ∧ vs.length = i) ⟨hH20.ks (same_new nL), [], upd_same, .nil, rfl⟩ (fun i H' _ ⟨k1, _⟩ => h1.kp k1.1) (fun i e x H' hi ⟨k1, vs, hL, hdl, hvl⟩ hx => ?_) (fun H21 ⟨k21, vsL, hL, hdlL, hvlL⟩ => ?_)
    · obtain ⟨p0, hp, rfl⟩ := map_get hi
      have hil := (List.getElem?_eq_some_iff.mp hp).1
      have hx' := Dt.offL hL hx (tu_st p0)
      cases hx' with
      | tup nn hh rr =>
        refine ⟨rfl, _, rfl, _, _, rfl, .inr (SqT.of hh), fun l nl => ⟨vs, by rw [upd_ne (ne_of_none hL nl)]; exact hL, by rw [sizeLine_eq]; omega, (k1.same (same_new nl)).put hH20 nL, _, upd_same, ?_, by rw [List.length_append, hvl]; rfl⟩⟩
        rw [List.take_add_one, hp, List.map_append]
        refine DtL.app ((hdl.same (same_new nl)).kp .putx) (.one ?_)
        exact (Dt.newL ⟨k1.2.none nl, Ne.symm (ne_of_none hL nl)⟩ nl rr).kp .putx
    rw [List.length_map, List.take_length] at hdlL
    have nLh : Nh hd L := hH20.fn L nL
    -- ways
    refine ⟨_, rfl, Nh hd, _, _, 2, _, hb20.kp k21.1, rfl, rfl, rfl, fun w2 h2 => ⟨Nh hd, _, _, h2, rfl, fun W nW => ?_⟩⟩
    refine lc_dt rfl (fun i H' => Kh hd H21 H' ∧ ∃ vs, H' W = some (.lst vs) ∧ DtL (Nx (Nh hd) W) H' ((as.take i).map encArL) vs ∧ vs.length = i ∧ ∀ x ∈ vs, ∃ r ys, x = .ref r ∧ r ≠ W ∧ H21 r = none ∧ H' r = some (.lst ys) ∧ ys.length = 3) ⟨k21.2.ks (same_new nW), [], upd_same, .nil, rfl, fun x hx => by cases hx⟩ (fun i H' _ ⟨k1, _⟩ => h2.kp k1.1) (fun i e x H' hi ⟨k1, vs, hW, hdl, hvl, hfr⟩ hx => ?_) (fun H22 ⟨k22, vsW, hW, hdlW, hvlW, hfrW⟩ => ?_)
    · obtain ⟨p0, hp, rfl⟩ := map_get hi
      have hil := (List.getElem?_eq_some_iff.mp hp).1
      have hx' := Dt.offL hW hx (tu_ar p0)
      cases hx' with
      | tup nn hh rr =>
        have rl := rr.len
        refine ⟨rfl, _, rfl, _, _, rfl, .inr (SqT.of hh), fun l nl => ⟨vs, by rw [upd_ne (ne_of_none hW nl)]; exact hW, by rw [sizeLine_eq]; omega, (k1.same (same_new nl)).put k21.2 nW, _, upd_same, ?_, by rw [List.length_append, hvl]; rfl, fun z hz => ?_⟩⟩
        · rw [List.take_add_one, hp, List.map_append]
          refine DtL.app ((hdl.same (same_new nl)).kp .putx) (.one ?_)
          exact (Dt.newL ⟨k1.2.none nl, Ne.symm (ne_of_none hW nl)⟩ nl rr).kp .putx
        · rcases List.mem_append.mp hz with hz | hz
          · obtain ⟨r, ys, e1, e2, e3, e4, e5⟩ := hfr z hz
            exact ⟨r, ys, e1, e2, e3, by rw [upd_ne e2, upd_ne (ne_of_none e4 nl)]; exact e4, e5⟩
          · have nlW : l ≠ W := Ne.symm (ne_of_none hW nl)
            exact ⟨l, _, List.mem_singleton.mp hz, nlW, k1.free k21.2 nl, by rw [upd_ne nlW]; exact upd_same, rl.symm⟩
    rw [List.length_map, List.take_length] at hdlW
    have nWh : Nh hd W := k21.2.fn W nW
    have k2022 := k21.trans k22
    have hL22 := k22.1 _ _ nLh hL
    have hdL22 : DtL (Nx (Nh hd) L) H22 (ss.map encStL) vsL := hdlL.kp fun b o n e => k22.1 b o n.1 e
    have nW20 : H20 W = none := k21.free hH20 nW
    have nLW : L ≠ W := ne_of_none hL nW
    have hb22 := hb20.kp k2022.1
    -- other
    refine ⟨_, rfl, Nh hd, _, _, 0, _, hb22, rfl, rfl, rfl, fun w hw => ?_⟩
    cases hw
    refine ⟨_, rfl, _, rfl, ?_⟩
    have dL : Dt (Nh hd) H22 (.list (ss.map encStL)) (.ref L) := .lst nLh hL22 (hdL22.sub Nx.sub)
    have dW : Dt (Nh hd) H22 (.list (as.map encArL)) (.ref W) := .lst nWh hW (hdlW.sub Nx.sub)
    refine fun q dx nq nd ne => mk_ok (E := fun _ _ _ => False) k2022.2 (.int n) dL dW (ss := ss) (as := as) ⟨rfl, n1, by omega, okS_sq rfl (by rw [List.map_map]; rfl) (by omega) (bst hB (Int.le_refl _)), okS_sq rfl (by rw [List.map_map]; rfl) (by omega) (bar hB (Int.le_refl _))⟩ nq nd ne fun H23 s23 hMq => ⟨rfl, ?_⟩
    clear ne nd nq dx dL dW
    have hL23 := s23 _ _ hL22
    have hW23 := s23 _ _ hW
    have k23 := k2022.same s23
    obtain ⟨x0, hx0⟩ : ∃ x0, vsW[0]? = some x0 := by
      have : 0 < vsW.length := by rw [hvlW, List.length_map]; omega
      exact ⟨vsW[0], by simp [this]⟩
    obtain ⟨r0, ys, rfl, hr0W, nr021, hr0, hys⟩ := hfrW x0 (List.mem_of_getElem? hx0)
    have nr020 : H20 r0 = none := k21.free hH20 nr021
    have nLr0 : L ≠ r0 := ne_of_none hL nr021
    have hr023 := s23 _ _ hr0
    have lenL : vsL.length ≤ 3 := by rw [hvlL, List.length_map]; omega
    have lenW : vsW.length ≤ 20 := by rw [hvlW, List.length_map]; omega
    -- loose.append([0, 1])
    refine ⟨_, rfl, .inl ⟨rfl, vsL, SqL.of hL23⟩, sz_2, fun q1 nq1 => ?_⟩
    have sa := same_new (o := .lst [.int 0, .int 1]) nq1
    refine ⟨L, vsL, .ref q1, rfl, rfl, sa _ _ hL23, by rw [sizeLine_eq]; omega, ?_⟩
    have k24 := (k23.same sa).put (o := .lst (vsL ++ [.ref q1])) hH20 nL
    have hMq24 := (hMq.kp (.same sa)).putL (o := .lst (vsL ++ [.ref q1])) (sa _ _ hL23)
    have hW24 : (upd (upd H23 q1 (.lst [.int 0, .int 1])) L (.lst (vsL ++ [.ref q1]))) W = some (.lst vsW) := by rw [upd_ne (Ne.symm nLW)]; exact sa _ _ hW23
    have hr24 : (upd (upd H23 q1 (.lst [.int 0, .int 1])) L (.lst (vsL ++ [.ref q1]))) r0 = some (.lst ys) := by rw [upd_ne (Ne.symm nLr0)]; exact sa _ _ hr023
    show tSeq _ _ _ _ (upd (upd H23 q1 (.lst [.int 0, .int 1])) L (.lst (vsL ++ [.ref q1])))
    generalize upd (upd H23 q1 (.lst [.int 0, .int 1])) L (.lst (vsL ++ [.ref q1])) = H24 at k24 hMq24 hW24 hr24
    clear hMq sa
    -- way[2] = base[0]
    refine ⟨_, rfl, W, vsW, 0, _, rfl, rfl, hW24, hx0, ?_⟩
    refine ⟨_, rfl, Nh hd, _, _, 0, _, hb20.kp k24.1, rfl, rfl, rfl, fun w hw => ?_⟩
    cases hw
    refine ⟨_, rfl, r0, ys, 2, rfl, rfl, hr24, by omega, ?_⟩
    have k25 := k24.put (o := .lst (ys.set 2 (.int n))) hH20 nr020
    have hMq25 := hMq24.putL (o := .lst (ys.set 2 (.int n))) hr24
    have hW25 : (upd H24 r0 (.lst (ys.set 2 (.int n)))) W = some (.lst vsW) := by rw [upd_ne (Ne.symm hr0W)]; exact hW24
    show tSeq _ _ _ _ (upd H24 r0 (.lst (ys.set 2 (.int n))))
    generalize upd H24 r0 (.lst (ys.set 2 (.int n))) = H25 at k25 hMq25 hW25
    -- ways.append(..)
    refine ⟨_, rfl, .inl ⟨rfl, vsW, SqL.of hW25⟩, sz_1, fun q3 nq3 => ⟨sz_3, fun q4 nq4 => ?_⟩⟩
    have sa := same_new (o := .tup [.str "stay"]) nq3
    have sb := same_up (o := .lst [.int 0, .ref q3, .int 0]) sa nq4
    refine ⟨W, vsW, .ref q4, rfl, rfl, sb _ _ hW25, by rw [sizeLine_eq]; omega, ?_⟩
    have k26 := (k25.same sb).put (o := .lst (vsW ++ [.ref q4])) hH20 nW20
    have hMq26 := (hMq25.kp (.same sb)).putL (o := .lst (vsW ++ [.ref q4])) (sb _ _ hW25)
    show tSeq _ _ _ _ (upd (upd (upd H25 q3 (.tup [.str "stay"])) q4 (.lst [.int 0, .ref q3, .int 0])) W (.lst (vsW ++ [.ref q4])))
    generalize upd (upd (upd H25 q3 (.tup [.str "stay"])) q4 (.lst [.int 0, .ref q3, .int 0])) W (.lst (vsW ++ [.ref q4])) = H26 at k26 hMq26
    clear sb sa hMq25 hW25 k25 hMq24 hW24 hr24 k24
    -- other is as machine
    have hM26 := hM20.kp k26.1
    have hb26 := hb20.kp k26.1
    refine ⟨_, rfl, _, rfl, eq_rd hMq26 hM26 ⟨_, rfl, itno (by rw [eq_self]; rfl) ?_⟩⟩
    obtain ⟨nq, dq, u1, u2, lu, hq, g1, g2⟩ := id hMq26
    refine ⟨_, rfl, q, CN, dq, _, _, rfl, hq, M.cl, M.n2, l6_ss, _, rfl, Nh hd, _, _, 1, _, hb26, rfl, rfl, rfl, fun w1 h1 => ⟨Nh hd, _, w1, _, rfl, h1, rfl, k26.2.fn, fun t1 H27 s27 ht1 => ?_⟩⟩
    refine ⟨Nh hd, _, _, g1.same s27, ht1, (shp_sts ss).shaped (by omega), (shp_sts ss).shaped (by omega), _, rfl, itno (by show (!PyData.eqv _ _) = false; rw [(shp_sts ss).refl]; rfl) ?_⟩
    refine ⟨_, rfl, q, CN, dq, _, _, rfl, s27 _ _ hq, M.cl, M.n3, l6_ar, _, rfl, Nh hd, _, _, 2, _, hb26.same s27, rfl, rfl, rfl, fun w2 h2 => ⟨Nh hd, _, w2, _, rfl, h2, rfl, (k26.2.same s27).fn, fun t2 H28 s28 ht2 => ?_⟩⟩
    refine ⟨Nh hd, _, _, (g2.same s27).same s28, ht2, (shp_ars as).shaped (by omega), (shp_ars as).shaped (by omega), _, rfl, itno (by show (!PyData.eqv _ _) = false; rw [(shp_ars as).refl]; rfl) ?_⟩
    have k28 := (k26.same s27).same s28
    clear h1 h2 ht1 ht2 g1 g2 hq nq hMq26
    -- odd moves
    refine ⟨_, rfl, hd, rfl, k28.2, fun d0 y0 H29 hd0 kh29 hy0 => ⟨_, rfl, hd, rfl, kh29.2, fun d1 y1 H30 hd1 kh30 hy1 => ⟨sz_2, fun q5 nq5 => ?_⟩⟩⟩
    have k30 := (k28.trans kh29).trans kh30
    have k31 := k30.same (same_new (o := .lst [y0, y1]) nq5)
    have dl : Dt (Nh hd) (upd H30 q5 (.lst [y0, y1])) (.list [d0, d1]) (.ref q5) := Dt.newL (k30.2.none nq5) nq5 (.cons (hy0.kp kh30.1) (.cons hy1 .nil))
    generalize upd H30 q5 (.lst [y0, y1]) = H31 at k31 dl
    refine ⟨Nh hd, _, _, dl, rfl, for_dt rfl (fun i σ H' => ∃ x11, σ = [some (.ref a), some (.ref hd), some bs, some (.ref gl), some (.ref p), some (.int (rimOf ss as)), some (.int (blkOf as)), some (.ref L), some (.ref W), some (.ref q), some (.ref r0), x11, none, none, none] ∧ Kh hd H31 H') ⟨none, rfl, k31.2.refl⟩ (fun i σ H' _ ⟨_, _, h⟩ => dl.kp h.1) (fun i e y σ H32 hi p32 hy => ?_) (fun σ H32 p32 => ?_)⟩
    · obtain ⟨x11, rfl, k32⟩ := p32
      have he : chkM e = none := by
        have he' : e = d0 ∨ e = d1 := by simpa using List.mem_of_getElem? hi
        rcases he' with rfl | rfl
        · exact hd0
        · exact hd1
      refine ⟨_, rfl, Nh hd, e, y, rfl, hy, k32.2.fn, fun m hm => (by rw [he] at hm; cases hm), fun _ z H33 s33 hz => ⟨sz_2, fun q6 nq6 => ?_⟩⟩
      have k33 := k32.same s33
      have s34 := same_new (o := .lst [.str "bad", .bl false]) nq6
      have shb : Shp 2 badM := shp_lst (shp_cons (shp_words (by decide +kernel)) (shp_cons (shp_bl _) shp_nil))
      refine ⟨Nh hd, badM, badM, hz.same s34, Dt.newL (k33.2.none nq6) nq6 (.cons (.str _) (.cons (.bl _) .nil)), shb.shaped (by omega), shb.shaped (by omega), _, rfl, ?_⟩
      exact itno (by rw [if_pos rfl, show PyData.eqv badM badM = true from shb.refl]; rfl) ⟨_, rfl, k33.same s34⟩
    obtain ⟨x11, rfl, k3132⟩ := p32
    have k32 := k31.trans k3132
    -- rooms, moves
    have hrb := rim_bounds hB
    have hbb := blk_bounds hB
    refine ⟨_, rfl, _, rfl, _, rfl, _, rfl, hd, p, n, ss, as, rfl, k32.2, hM20.kp k32.1, ⟨n1, by omega⟩, ⟨hrb.1, by omega⟩, ⟨hbb.1, by omega⟩, fun H33 kh33 => ⟨_, rfl, itno rfl ?_⟩⟩
    have k33 := k32.trans kh33
    refine ⟨_, rfl, _, rfl, Nh hd, _, _, 2, _, hb20.kp k33.1, rfl, rfl, rfl, fun w2 h2 => ⟨hd, as, w2, rfl, k33.2, h2, fun a ha => (hB.ar a ha).1, fun H34 kh34 => ⟨_, rfl, itno rfl ?_⟩⟩⟩
    have k34 := k33.trans kh34
    -- refusals
    refine ⟨3, rfl, by decide, by decide, for_range (fun i σ H' => ∃ x12, σ = [some (.ref a), some (.ref hd), some bs, some (.ref gl), some (.ref p), some (.int (rimOf ss as)), some (.int (blkOf as)), some (.ref L), some (.ref W), some (.ref q), some (.ref r0), x11, x12, none, none] ∧ Kh hd H20 H') ⟨none, rfl, k34⟩ (fun i σ H35 hi p35 => ?_) (fun σ H35 p35 => ?_)⟩
    · obtain ⟨x12, rfl, k35⟩ := p35
      exact ⟨_, rfl, _, rfl, hd, n, ss, as, bs, rfl, k35.2, hB, hb20.kp k35.1, fun H36 kh36 => ⟨_, rfl, itno rfl ⟨_, rfl, k35.trans kh36⟩⟩⟩
    obtain ⟨x12, rfl, k35⟩ := p35
    refine ⟨_, rfl, hd, 12, rfl, k35.2, by decide, by decide, fun r H36 r0' r1' kh36 => ⟨_, _, rfl, rfl, _, rfl, ?_⟩⟩
    refine ite2 (fun c => ?_) (fun c => ?_)
    · exact k _
    · exact ⟨_, rfl, hd, rfl, (k35.trans kh36).2, fun H' => k H'⟩
end
end K8
set_option maxRecDepth 100000
set_option maxHeartbeats 2000000
/-! QE: all together: from what the top has written to the law's promise. -/
namespace K8
open PySem PySem.Spec PyProof.Rows L2 L2H
section
variable {K : PySem.W.Frag} {h : Heap} {mg : Str → Option Value}
theorem kit_ref {t : Value} {C : Addr} {b : Bool} (hne : (t == .ref C) = false) (hd : PySem.W.hasDictIn K C = true) (ht : PySem.W.typeIn K (.ref C) = some (.type "type")) (h4 : PySem.W.subIn K t (.ref C) = some b) : PySem.W.kitOne K t (.ref C) = some b := by
  obtain ⟨cd, hc, _⟩ := PySem.W.any_some hd
  have e2 : ((PySem.W.clsIn K C).isSome && PySem.W.typeIn K (.ref C) == some (.type "type")) = true := by rw [hc, ht] <;> rfl
  show (if (t == Value.ref C) = true then some true else (if ((PySem.W.clsIn K C).isSome && PySem.W.typeIn K (.ref C) == some (.type "type")) = true then PySem.W.subIn K t (.ref C) else none)) = some b
  rw [if_neg (by rw [hne]; exact Bool.false_ne_true), if_pos e2]
  exact h4
theorem kit_self {C : Addr} : PySem.W.kitOne K (.ref C) (.ref C) = some true := if_pos (beq_self_eq_true _)
theorem exm_two {cls a b : Value} {x y : Bool} (h1 : PySem.W.exmOne K cls a = some x) (h2 : PySem.W.exmOne K cls b = some y) (e : (x || (y || false)) = true) : PySem.W.exmAny K cls [a, b] = some true := by
  have e2 : PySem.W.exmAny K cls [b] = some (y || false) := by
    show (match PySem.W.exmOne K cls b, PySem.W.exmAny K cls [] with | some b, some d => some (b || d) | _, _ => none) = _
    rw [h2]; rfl
  show (match PySem.W.exmOne K cls a, PySem.W.exmAny K cls [b] with | some b, some d => some (b || d) | _, _ => none) = _
  rw [h1, e2]
  show some (x || (y || false)) = some true
  rw [e]
theorem dn_mk {x : Str} {i : Nat} {ps : List Str} {f : Addr} {oc : Value} {od an : Option Addr} {osl : Array (Option Value)} {kV doc pm cdv ct : Value} (X : K.In h) (G : h.Ns mainGlobals mg) (b : ∀ f fd, Fun K x x (top i) f fd → Binds K fd ps [])
    (a : PySem.W.nsIn K mainGlobals x = some (some (.ref f))) (l : K.lookup f = some ⟨oc, od, .func (PySem.W.fnOf x x (defArgs (top i)) (defBody (top i)) (defScope (top i)) .none kV doc pm an cdv ct), osl⟩) (c : PySem.W.codeIn K cdv x = true) (k : PySem.W.keepIn K (.ref f) = true) : Dn K mg x i ps :=
  ⟨f, _, fun_mk l c k, PySem.W.mg_of X G a, b _ _ (fun_mk l c k)⟩
theorem bd8 : ∀ f fd, Fun K "whole_within" "whole_within" (top 8) f fd → Binds K fd ["thing", "low", "high"] [] := fun f fd F => F.binds (ps := ["thing", "low", "high"]) fun _ _ _ _ _ _ us hl => match us, hl with | [_, _, _], _ => rfl
theorem bd9 : ∀ f fd, Fun K "check_letter" "check_letter" (top 9) f fd → Binds K fd ["letter"] [] := fun f fd F => F.binds (ps := ["letter"]) fun _ _ _ _ _ _ us hl => match us, hl with | [_], _ => rfl
theorem bd10 : ∀ f fd, Fun K "check_test" "check_test" (top 10) f fd → Binds K fd ["test"] [] := fun f fd F => F.binds (ps := ["test"]) fun _ _ _ _ _ _ us hl => match us, hl with | [_], _ => rfl
theorem bd11 : ∀ f fd, Fun K "do_letter" "do_letter" (top 11) f fd → Binds K fd ["letter", "number"] [] := fun f fd F => F.binds (ps := ["letter", "number"]) fun _ _ _ _ _ _ us hl => match us, hl with | [_, _], _ => rfl
theorem bd12 : ∀ f fd, Fun K "passes" "passes" (top 12) f fd → Binds K fd ["test", "number"] [] := fun f fd F => F.binds (ps := ["test", "number"]) fun _ _ _ _ _ _ us hl => match us, hl with | [_, _], _ => rfl
theorem bd14 : ∀ f fd, Fun K "check_move" "check_move" (top 14) f fd → Binds K fd ["move"] [] := fun f fd F => F.binds (ps := ["move"]) fun _ _ _ _ _ _ us hl => match us, hl with | [_], _ => rfl
theorem bd15 : ∀ f fd, Fun K "move_number" "move_number" (top 15) f fd → Binds K fd ["move", "number"] [] := fun f fd F => F.binds (ps := ["move", "number"]) fun _ _ _ _ _ _ us hl => match us, hl with | [_, _], _ => rfl
theorem bd16 : ∀ f fd, Fun K "check_starts" "check_starts" (top 16) f fd → Binds K fd ["stations", "starts"] [] := fun f fd F => F.binds (ps := ["stations", "starts"]) fun _ _ _ _ _ _ us hl => match us, hl with | [_, _], _ => rfl
theorem bd17 : ∀ f fd, Fun K "check_arrows" "check_arrows" (top 17) f fd → Binds K fd ["stations", "arrows"] [] := fun f fd F => F.binds (ps := ["stations", "arrows"]) fun _ _ _ _ _ _ us hl => match us, hl with | [_, _], _ => rfl
theorem bd18 : ∀ f fd, Fun K "widest_of" "widest_of" (top 18) f fd → Binds K fd ["starts", "arrows"] [] := fun f fd F => F.binds (ps := ["starts", "arrows"]) fun _ _ _ _ _ _ us hl => match us, hl with | [_, _], _ => rfl
theorem bd19 : ∀ f fd, Fun K "block_of" "block_of" (top 19) f fd → Binds K fd ["arrows"] [] := fun f fd F => F.binds (ps := ["arrows"]) fun _ _ _ _ _ _ us hl => match us, hl with | [_], _ => rfl
theorem bd21 : ∀ f fd, Fun K "room_of" "room_of" (top 21) f fd → Binds K fd ["machine", "station", "number"] [] := fun f fd F => F.binds (ps := ["machine", "station", "number"]) fun _ _ _ _ _ _ us hl => match us, hl with | [_, _, _], _ => rfl
theorem bd22 : ∀ f fd, Fun K "number_of" "number_of" (top 22) f fd → Binds K fd ["machine", "room", "height"] [] := fun f fd F => F.binds (ps := ["machine", "room", "height"]) fun _ _ _ _ _ _ us hl => match us, hl with | [_, _, _], _ => rfl
theorem bd24 : ∀ f fd, Fun K "_law_hand" "_law_hand" (top 24) f fd → Binds K fd ["_law_script"] [] := fun f fd F => F.binds (ps := ["_law_script"]) fun _ _ _ _ _ _ us hl => match us, hl with | [_], _ => rfl
theorem bd25 : ∀ f fd, Fun K "_law_mixed" "_law_mixed" (top 25) f fd → Binds K fd ["_law_number", "_law_turn"] [] := fun f fd F => F.binds (ps := ["_law_number", "_law_turn"]) fun _ _ _ _ _ _ us hl => match us, hl with | [_, _], _ => rfl
theorem bd26 : ∀ f fd, Fun K "_law_draw" "_law_draw" (top 26) f fd → Binds K fd ["_law_hand_here", "_law_many"] [] := fun f fd F => F.binds (ps := ["_law_hand_here", "_law_many"]) fun _ _ _ _ _ _ us hl => match us, hl with | [_, _], _ => rfl
theorem bd27 : ∀ f fd, Fun K "_law_pick" "_law_pick" (top 27) f fd → Binds K fd ["_law_hand_here", "_law_things"] [] := fun f fd F => F.binds (ps := ["_law_hand_here", "_law_things"]) fun _ _ _ _ _ _ us hl => match us, hl with | [_, _], _ => rfl
theorem bd28 : ∀ f fd, Fun K "_law_whole" "_law_whole" (top 28) f fd → Binds K fd ["_law_thing"] [] := fun f fd F => F.binds (ps := ["_law_thing"]) fun _ _ _ _ _ _ us hl => match us, hl with | [_], _ => rfl
theorem bd29 : ∀ f fd, Fun K "_law_value" "_law_value" (top 29) f fd → Binds K fd ["_law_hand_here"] [] := fun f fd F => F.binds (ps := ["_law_hand_here"]) fun _ _ _ _ _ _ us hl => match us, hl with | [_], _ => rfl
theorem bd30 : ∀ f fd, Fun K "_law_letter" "_law_letter" (top 30) f fd → Binds K fd ["_law_hand_here", "_law_most", "_law_moduli"] [] := fun f fd F => F.binds (ps := ["_law_hand_here", "_law_most", "_law_moduli"]) fun _ _ _ _ _ _ us hl => match us, hl with | [_, _, _], _ => rfl
theorem bd31 : ∀ f fd, Fun K "_law_test" "_law_test" (top 31) f fd → Binds K fd ["_law_hand_here", "_law_moduli"] [] := fun f fd F => F.binds (ps := ["_law_hand_here", "_law_moduli"]) fun _ _ _ _ _ _ us hl => match us, hl with | [_, _], _ => rfl
theorem bd32 : ∀ f fd, Fun K "_law_deed" "_law_deed" (top 32) f fd → Binds K fd ["_law_letter_here", "_law_number"] [] := fun f fd F => F.binds (ps := ["_law_letter_here", "_law_number"]) fun _ _ _ _ _ _ us hl => match us, hl with | [_, _], _ => rfl
theorem bd33 : ∀ f fd, Fun K "_law_passes" "_law_passes" (top 33) f fd → Binds K fd ["_law_test_here", "_law_number"] [] := fun f fd F => F.binds (ps := ["_law_test_here", "_law_number"]) fun _ _ _ _ _ _ us hl => match us, hl with | [_, _], _ => rfl
theorem bd34 : ∀ f fd, Fun K "_law_moved" "_law_moved" (top 34) f fd → Binds K fd ["_law_move_here", "_law_number"] [] := fun f fd F => F.binds (ps := ["_law_move_here", "_law_number"]) fun _ _ _ _ _ _ us hl => match us, hl with | [_, _], _ => rfl
theorem bd35 : ∀ f fd, Fun K "_law_move" "_law_move" (top 35) f fd → Binds K fd ["_law_hand_here", "_law_most", "_law_moduli"] [] := fun f fd F => F.binds (ps := ["_law_hand_here", "_law_most", "_law_moduli"]) fun _ _ _ _ _ _ us hl => match us, hl with | [_, _, _], _ => rfl
theorem bd36 : ∀ f fd, Fun K "_law_shape" "_law_shape" (top 36) f fd → Binds K fd ["_law_hand_here", "_law_wide"] [] := fun f fd F => F.binds (ps := ["_law_hand_here", "_law_wide"]) fun _ _ _ _ _ _ us hl => match us, hl with | [_, _], _ => rfl
theorem bd37 : ∀ f fd, Fun K "_law_rings" "_law_rings" (top 37) f fd → Binds K fd ["_law_hand_here", "_law_shape_here", "_law_cut"] [] := fun f fd F => F.binds (ps := ["_law_hand_here", "_law_shape_here", "_law_cut"]) fun _ _ _ _ _ _ us hl => match us, hl with | [_, _, _], _ => rfl
theorem bd38 : ∀ f fd, Fun K "_law_machine" "_law_machine" (top 38) f fd → Binds K fd ["_law_hand_here", "_law_shape_here", "_law_many"] [] := fun f fd F => F.binds (ps := ["_law_hand_here", "_law_shape_here", "_law_many"]) fun _ _ _ _ _ _ us hl => match us, hl with | [_, _, _], _ => rfl
theorem bd39 : ∀ f fd, Fun K "_law_rim" "_law_rim" (top 39) f fd → Binds K fd ["_law_starts", "_law_arrows"] [] := fun f fd F => F.binds (ps := ["_law_starts", "_law_arrows"]) fun _ _ _ _ _ _ us hl => match us, hl with | [_, _], _ => rfl
theorem bd40 : ∀ f fd, Fun K "_law_both_divide" "_law_both_divide" (top 40) f fd → Binds K fd ["_law_one", "_law_other"] [] := fun f fd F => F.binds (ps := ["_law_one", "_law_other"]) fun _ _ _ _ _ _ us hl => match us, hl with | [_, _], _ => rfl
theorem bd41 : ∀ f fd, Fun K "_law_block" "_law_block" (top 41) f fd → Binds K fd ["_law_arrows"] [] := fun f fd F => F.binds (ps := ["_law_arrows"]) fun _ _ _ _ _ _ us hl => match us, hl with | [_], _ => rfl
theorem bd42 : ∀ f fd, Fun K "_law_room" "_law_room" (top 42) f fd → Binds K fd ["_law_rim_here", "_law_block_here", "_law_station", "_law_number"] [] := fun f fd F => F.binds (ps := ["_law_rim_here", "_law_block_here", "_law_station", "_law_number"]) fun _ _ _ _ _ _ us hl => match us, hl with | [_, _, _, _], _ => rfl
theorem bd43 : ∀ f fd, Fun K "_law_shown" "_law_shown" (top 43) f fd → Binds K fd ["_law_hand_here", "_law_things"] [] := fun f fd F => F.binds (ps := ["_law_hand_here", "_law_things"]) fun _ _ _ _ _ _ us hl => match us, hl with | [_, _], _ => rfl
theorem bd45 : ∀ f fd, Fun K "_law_told" "_law_told" (top 45) f fd → Binds K fd ["_law_stations", "_law_starts", "_law_arrows"] [] := fun f fd F => F.binds (ps := ["_law_stations", "_law_starts", "_law_arrows"]) fun _ _ _ _ _ _ us hl => match us, hl with | [_, _, _], _ => rfl
theorem bd46 : ∀ f fd, Fun K "_law_move_told" "_law_move_told" (top 46) f fd → Binds K fd ["_law_move_here"] [] := fun f fd F => F.binds (ps := ["_law_move_here"]) fun _ _ _ _ _ _ us hl => match us, hl with | [_], _ => rfl
theorem bd47 : ∀ f fd, Fun K "_law_rooms_hold" "_law_rooms_hold" (top 47) f fd → Binds K fd ["_law_hand_here", "_law_machine_here", "_law_rim_here", "_law_block_here"] [] := fun f fd F => F.binds (ps := ["_law_hand_here", "_law_machine_here", "_law_rim_here", "_law_block_here"]) fun _ _ _ _ _ _ us hl => match us, hl with | [_, _, _, _], _ => rfl
theorem bd48 : ∀ f fd, Fun K "_law_moves_hold" "_law_moves_hold" (top 48) f fd → Binds K fd ["_law_hand_here", "_law_arrows"] [] := fun f fd F => F.binds (ps := ["_law_hand_here", "_law_arrows"]) fun _ _ _ _ _ _ us hl => match us, hl with | [_, _], _ => rfl
theorem bd49 : ∀ f fd, Fun K "_law_odd_move" "_law_odd_move" (top 49) f fd → Binds K fd ["_law_hand_here"] [] := fun f fd F => F.binds (ps := ["_law_hand_here"]) fun _ _ _ _ _ _ us hl => match us, hl with | [_], _ => rfl
theorem bd50 : ∀ f fd, Fun K "_law_odd_start" "_law_odd_start" (top 50) f fd → Binds K fd ["_law_hand_here", "_law_stations"] [] := fun f fd F => F.binds (ps := ["_law_hand_here", "_law_stations"]) fun _ _ _ _ _ _ us hl => match us, hl with | [_, _], _ => rfl
theorem bd51 : ∀ f fd, Fun K "_law_odd_arrow" "_law_odd_arrow" (top 51) f fd → Binds K fd ["_law_hand_here", "_law_stations"] [] := fun f fd F => F.binds (ps := ["_law_hand_here", "_law_stations"]) fun _ _ _ _ _ _ us hl => match us, hl with | [_, _], _ => rfl
theorem bd52 : ∀ f fd, Fun K "_law_with_odd" "_law_with_odd" (top 52) f fd → Binds K fd ["_law_hand_here", "_law_things", "_law_odds"] [] := fun f fd F => F.binds (ps := ["_law_hand_here", "_law_things", "_law_odds"]) fun _ _ _ _ _ _ us hl => match us, hl with | [_, _, _], _ => rfl
theorem bd53 : ∀ f fd, Fun K "_law_refusals_hold" "_law_refusals_hold" (top 53) f fd → Binds K fd ["_law_hand_here", "_law_base"] [] := fun f fd F => F.binds (ps := ["_law_hand_here", "_law_base"]) fun _ _ _ _ _ _ us hl => match us, hl with | [_, _], _ => rfl
theorem bd54 : ∀ f fd, Fun K "_law_great_holds" "_law_great_holds" (top 54) f fd → Binds K fd ["_law_hand_here"] [] := fun f fd F => F.binds (ps := ["_law_hand_here"]) fun _ _ _ _ _ _ us hl => match us, hl with | [_], _ => rfl
/-- every def of the top but the law -/
structure Defs (K : PySem.W.Frag) (mg : Str → Option Value) : Prop where
  d8 : Dn K mg "whole_within" 8 ["thing", "low", "high"]
  d9 : Dn K mg "check_letter" 9 ["letter"]
  d10 : Dn K mg "check_test" 10 ["test"]
  d11 : Dn K mg "do_letter" 11 ["letter", "number"]
  d12 : Dn K mg "passes" 12 ["test", "number"]
  d14 : Dn K mg "check_move" 14 ["move"]
  d15 : Dn K mg "move_number" 15 ["move", "number"]
  d16 : Dn K mg "check_starts" 16 ["stations", "starts"]
  d17 : Dn K mg "check_arrows" 17 ["stations", "arrows"]
  d18 : Dn K mg "widest_of" 18 ["starts", "arrows"]
  d19 : Dn K mg "block_of" 19 ["arrows"]
  d21 : Dn K mg "room_of" 21 ["machine", "station", "number"]
  d22 : Dn K mg "number_of" 22 ["machine", "room", "height"]
  d24 : Dn K mg "_law_hand" 24 ["_law_script"]
  d25 : Dn K mg "_law_mixed" 25 ["_law_number", "_law_turn"]
  d26 : Dn K mg "_law_draw" 26 ["_law_hand_here", "_law_many"]
  d27 : Dn K mg "_law_pick" 27 ["_law_hand_here", "_law_things"]
  d28 : Dn K mg "_law_whole" 28 ["_law_thing"]
  d29 : Dn K mg "_law_value" 29 ["_law_hand_here"]
  d30 : Dn K mg "_law_letter" 30 ["_law_hand_here", "_law_most", "_law_moduli"]
  d31 : Dn K mg "_law_test" 31 ["_law_hand_here", "_law_moduli"]
  d32 : Dn K mg "_law_deed" 32 ["_law_letter_here", "_law_number"]
  d33 : Dn K mg "_law_passes" 33 ["_law_test_here", "_law_number"]
  d34 : Dn K mg "_law_moved" 34 ["_law_move_here", "_law_number"]
  d35 : Dn K mg "_law_move" 35 ["_law_hand_here", "_law_most", "_law_moduli"]
  d36 : Dn K mg "_law_shape" 36 ["_law_hand_here", "_law_wide"]
  d37 : Dn K mg "_law_rings" 37 ["_law_hand_here", "_law_shape_here", "_law_cut"]
  d38 : Dn K mg "_law_machine" 38 ["_law_hand_here", "_law_shape_here", "_law_many"]
  d39 : Dn K mg "_law_rim" 39 ["_law_starts", "_law_arrows"]
  d40 : Dn K mg "_law_both_divide" 40 ["_law_one", "_law_other"]
  d41 : Dn K mg "_law_block" 41 ["_law_arrows"]
  d42 : Dn K mg "_law_room" 42 ["_law_rim_here", "_law_block_here", "_law_station", "_law_number"]
  d43 : Dn K mg "_law_shown" 43 ["_law_hand_here", "_law_things"]
  d45 : Dn K mg "_law_told" 45 ["_law_stations", "_law_starts", "_law_arrows"]
  d46 : Dn K mg "_law_move_told" 46 ["_law_move_here"]
  d47 : Dn K mg "_law_rooms_hold" 47 ["_law_hand_here", "_law_machine_here", "_law_rim_here", "_law_block_here"]
  d48 : Dn K mg "_law_moves_hold" 48 ["_law_hand_here", "_law_arrows"]
  d49 : Dn K mg "_law_odd_move" 49 ["_law_hand_here"]
  d50 : Dn K mg "_law_odd_start" 50 ["_law_hand_here", "_law_stations"]
  d51 : Dn K mg "_law_odd_arrow" 51 ["_law_hand_here", "_law_stations"]
  d52 : Dn K mg "_law_with_odd" 52 ["_law_hand_here", "_law_things", "_law_odds"]
  d53 : Dn K mg "_law_refusals_hold" 53 ["_law_hand_here", "_law_base"]
  d54 : Dn K mg "_law_great_holds" 54 ["_law_hand_here"]
/-- an error's class -/
theorem oex_mk {C : Addr} {nm q N bs sn sub ab col dd k0 k1 k2 k3 k5} {bm : List Value} (lk : K.lookup C = some (excClassObj nm q C N bs bm true sn sub ab col dd k0 k1 k2 k3 k5 "ValueError.__new__")) (hr : PySem.HandSPX.refsVE bm = true)
    (sa : PySem.W.findIn K (.ref C) "__setattr__" = some (some (.builtin "object.__setattr__"))) (ex : PySem.W.subIn K (.ref C) (.type "BaseException") = some true) (ty : PySem.W.typeIn K (.ref C) = some (.type "type")) (kC : PySem.W.keepIn K (.ref C) = true) : OexC K C :=
  ⟨⟨nm, q, N, bs, bm, sn, sub, ab, col, dd, k0, k1, k2, k3, k5, lk, hr⟩, sa, ex, ty, kC⟩
theorem bdL : ∀ f fd, Fun K "__init__" "BadLetter.__init__" (inClass (top 3) 0) f fd → Binds K fd ["self"] [] := fun f fd F => F.binds (ps := ["self"]) fun _ _ _ _ _ _ us hl => match us, hl with | [_], _ => rfl
theorem bdT : ∀ f fd, Fun K "__init__" "BadTest.__init__" (inClass (top 4) 0) f fd → Binds K fd ["self"] [] := fun f fd F => F.binds (ps := ["self"]) fun _ _ _ _ _ _ us hl => match us, hl with | [_], _ => rfl
theorem bdM : ∀ f fd, Fun K "__init__" "BadMove.__init__" (inClass (top 5) 0) f fd → Binds K fd ["self"] [] := fun f fd F => F.binds (ps := ["self"]) fun _ _ _ _ _ _ us hl => match us, hl with | [_], _ => rfl
theorem bdB : ∀ f fd, Fun K "__init__" "BadMachine.__init__" (inClass (top 6) 0) f fd → Binds K fd ["self", "what", "at"] [] := fun f fd F => F.binds (ps := ["self", "what", "at"]) fun _ _ _ _ _ _ us hl => match us, hl with | [_, _, _], _ => rfl
theorem bdI : ∀ f fd, Fun K "__init__" "Machine.__init__" (inClass (top 20) 0) f fd → Binds K fd ["self", "stations", "starts", "arrows"] [] := fun f fd F => F.binds (ps := ["self", "stations", "starts", "arrows"]) fun _ _ _ _ _ _ us hl => match us, hl with | [_, _, _, _], _ => rfl
theorem bdE : ∀ f fd, Fun K "__eq__" "Machine.__eq__" (inClass (top 20) 1) f fd → Binds K fd ["self", "other"] [] := fun f fd F => F.binds (ps := ["self", "other"]) fun _ _ _ _ _ _ us hl => match us, hl with | [_, _], _ => rfl
end
section
variable {P : Program} {w : World} {K : PySem.W.Frag} {mg : Str → Option Value} {base : Heap}
/-- the classes' facts, in one -/
structure Clss (K : PySem.W.Frag) (mg : Str → Option Value) (BK CL CT CM CB CN fL fT fM fB fI g : Addr) : Prop where
  oL : OexC K CL
  oT : OexC K CT
  oM : OexC K CM
  oB : OexC K CB
  iL : PySem.W.findIn K (.ref CL) "__init__" = some (some (.ref fL))
  iT : PySem.W.findIn K (.ref CT) "__init__" = some (some (.ref fT))
  iM : PySem.W.findIn K (.ref CM) "__init__" = some (some (.ref fM))
  iB : PySem.W.findIn K (.ref CB) "__init__" = some (some (.ref fB))
  tL : PySem.W.typeIn K (.ref fL) = some (.type "function")
  tT : PySem.W.typeIn K (.ref fT) = some (.type "function")
  tM : PySem.W.typeIn K (.ref fM) = some (.type "function")
  tB : PySem.W.typeIn K (.ref fB) = some (.type "function")
  nL : mg "BadLetter" = some (.ref CL)
  nT : mg "BadTest" = some (.ref CT)
  bB : BaseC K BK
  ER : Errs K mg BK CM CB
  MM : Exm K CL CT CM CB
  MQ : MachQ K mg CN g
  MK : Mk K CN fI
  dL : ∃ fd, Fun K "__init__" "BadLetter.__init__" (inClass (top 3) 0) fL fd
  dT : ∃ fd, Fun K "__init__" "BadTest.__init__" (inClass (top 4) 0) fT fd
  dM : ∃ fd, Fun K "__init__" "BadMove.__init__" (inClass (top 5) 0) fM fd
  dB : ∃ fd, Fun K "__init__" "BadMachine.__init__" (inClass (top 6) 0) fB fd
  dI : ∃ fd, Fun K "__init__" "Machine.__init__" (inClass (top 20) 0) fI fd
  dE : ∃ fd, Fun K "__eq__" "Machine.__eq__" (inClass (top 20) 1) g fd
theorem all_ok {BK CL CT CM CB CN fL fT fM fB fI g fa : Addr} {fd : FuncData} (B : Bn mg) (D : Defs K mg) (C : Clss K mg BK CL CT CM CB CN fL fT fM fB fI g) (FLaw : Fun K "law" "law" (top 55) fa fd) : FnOk P w K mg base CX0 10 fa fd ["_law_script"] (spLaw K) := by
  obtain ⟨dL, FdL⟩ := C.dL
  obtain ⟨dT, FdT⟩ := C.dT
  obtain ⟨dM, FdM⟩ := C.dM
  obtain ⟨dB, FdB⟩ := C.dB
  obtain ⟨dI, FdI⟩ := C.dI
  obtain ⟨dE, FdE⟩ := C.dE
  have XL : Ex0 P w K mg base "BadLetter" CL := ⟨fL, dL, C.oL, C.iL, C.tL, q_iL C.oL C.bB C.ER.mgK FdL, bdL _ _ FdL, C.nL⟩
  have XT : Ex0 P w K mg base "BadTest" CT := ⟨fT, dT, C.oT, C.iT, C.tT, q_iT C.oT C.bB C.ER.mgK FdT, bdT _ _ FdT, C.nT⟩
  have XM : Ex0 P w K mg base "BadMove" CM := ⟨fM, dM, C.oM, C.iM, C.tM, q_iM C.oM C.bB C.ER.mgK FdM, bdM _ _ FdM, C.ER.mgM⟩
  have XB : ExM P w K mg base CB := ⟨fB, dB, C.oB, C.iB, C.tB, q_iB C.oB C.bB C.ER.mgK C.ER.noW C.ER.noA FdB, bdB _ _ FdB, C.ER.mgB⟩
  have W := ok_whole (P := P) (w := w) (base := base) B D.d8
  have L := ok_letter (P := P) (w := w) (base := base) B D.d9 W XL
  have T := ok_test (P := P) (w := w) (base := base) B D.d10 W XT
  have DL := ok_doL (P := P) (w := w) (base := base) B D.d11
  have PS := ok_pass (P := P) (w := w) (base := base) B D.d12
  have MV := ok_move (P := P) (w := w) (base := base) B D.d14 XL XT XM C.MM L T
  have MN := ok_mvn (P := P) (w := w) (base := base) B D.d15 DL PS
  have ST := ok_starts (P := P) (w := w) (base := base) B D.d16 W XB
  have AR := ok_arrows (P := P) (w := w) (base := base) B D.d17 W XB XM C.MM MV
  have WD := ok_wide (P := P) (w := w) (base := base) B D.d18
  have BL := ok_block (P := P) (w := w) (base := base) B D.d19
  have IN := ok_init (P := P) (w := w) (base := base) FdI B C.MQ.toMach XB W ST AR WD BL
  have EQ := ok_eq (P := P) (w := w) (base := base) FdE B C.MQ
  have RO := ok_room (P := P) (w := w) (base := base) B C.MQ D.d21
  have NU := ok_num (P := P) (w := w) (base := base) B C.MQ D.d22
  have HA := ok_hand (P := P) (w := w) (base := base) B D.d24
  have MI := ok_mix (P := P) (w := w) (base := base) B D.d25
  have DR := ok_draw (P := P) (w := w) (base := base) B D.d26 MI
  have PI := ok_pick (P := P) (w := w) (base := base) B D.d27 DR
  have WH := ok_wh1 (P := P) (w := w) (base := base) B D.d28
  have VA := ok_val (P := P) (w := w) (base := base) D.d29 DR
  have LE := ok_let (P := P) (w := w) (base := base) D.d30 DR PI VA
  have TS := ok_tst (P := P) (w := w) (base := base) D.d31 DR PI VA
  have DE := ok_deed (P := P) (w := w) (base := base) D.d32
  have LP := ok_lpass (P := P) (w := w) (base := base) B D.d33
  have MD := ok_moved (P := P) (w := w) (base := base) D.d34 DE LP
  have LM := ok_mv (P := P) (w := w) (base := base) D.d35 DR PI LE TS
  have SH := ok_shape (P := P) (w := w) (base := base) D.d36 PI
  have RI := ok_rings (P := P) (w := w) (base := base) B D.d37 DR PI LM
  have MA := ok_mach (P := P) (w := w) (base := base) B D.d38 DR PI LM RI VA
  have LR := ok_lrim (P := P) (w := w) (base := base) B D.d39
  have BO := ok_both (P := P) (w := w) (base := base) B D.d40
  have LB := ok_lblk (P := P) (w := w) (base := base) B D.d41 BO
  have LO := ok_lroom (P := P) (w := w) (base := base) B D.d42
  have SW := ok_shown (P := P) (w := w) (base := base) B D.d43 DR
  have TO := ok_told (P := P) (w := w) (base := base) B D.d45 C.MQ C.ER C.MM C.MK IN (bdI _ _ FdI)
  have MT := ok_mtold (P := P) (w := w) (base := base) B D.d46 C.ER C.MM MV
  have RH := ok_rooms (P := P) (w := w) (base := base) B C.MQ D.d47 DR RO NU LO
  have MH := ok_moves (P := P) (w := w) (base := base) B D.d48 DR PI VA MN MD MT
  have OM := ok_oddm (P := P) (w := w) (base := base) D.d49 PI
  have OS := ok_odds (P := P) (w := w) (base := base) D.d50 DR PI
  have OA := ok_odda (P := P) (w := w) (base := base) D.d51 OM PI
  have WI := ok_with (P := P) (w := w) (base := base) B D.d52 DR
  have RF := ok_refuse (P := P) (w := w) (base := base) B D.d53 DR PI OS OA WI TO
  have GR := ok_great (P := P) (w := w) (base := base) B D.d54 PI TO
  exact ok_law (CN := CN) (CB := CB) (g := g) B FLaw C.MQ ⟨HA, DR, WH, SH, MA, SW, LR, LB, TO, MT, OM, RH, MH, RF, GR, ⟨fI, dI, C.MK, IN, bdI _ _ FdI⟩, ⟨dE, EQ, bdE _ _ FdE⟩⟩
theorem walk {l : PySem.W.OpenLaw} {q : Program} {loose : List Str} {XP : (Str → Option Value) → Heap → Prop} {YP : World → Heap → Prop} {d : DefRec} {K : Params → PySem.W.Frag} (hn : l.most = some 63) (hdf : d.params.defaults = [])
    (hY : ∀ (w : World) (h : Heap), YP w h → (K w.params).In h)
    (F : ∀ (w : World) (mg : Str → Option Value) (fa : Addr) (h : Heap), (K w.params).In h → h.Ns mainGlobals mg → mg d.name = some (.ref fa) →
      ∃ fd : FuncData, (∀ (s : Shared) (u : Value), BindsTo s fd ⟨[u], []⟩ [("_law_script", u)]) ∧ ∀ base : Heap, (K w.params).In base → base.Ns mainGlobals mg → FnOk l.prog w (K w.params) mg base CX0 10 fa fd ["_law_script"] (spLaw (K w.params))) :
    PySem.W.WalkO q loose XP YP l.row.toRowW d [] (fun f vs => PySem.call f vs) :=
  L2.walk_of (n := 63) (k := 10) (x := "_law_script") (CX := fun _ => CX0) (sp := fun w => spLaw (K w.params)) hn (by decide) hdf ⟨rfl, by decide, by decide⟩ hY F (fun _ _ a ns hl _ hS => ⟨a, ns, rfl, hS, hl, fun _ => rfl⟩) fun _ _ _ _ _ z => z
/-- the law's def, its arguments bound -/
theorem law_mk {h : Heap} {fa f : Addr} {oc : Value} {od an : Option Addr} {osl : Array (Option Value)} {kV doc pm cdv ct : Value} (X : K.In h) (G : h.Ns mainGlobals mg) (hfa : mg "law" = some (.ref fa))
    (a : PySem.W.nsIn K mainGlobals "law" = some (some (.ref f))) (l : K.lookup f = some ⟨oc, od, .func (PySem.W.fnOf "law" "law" (defArgs (top 55)) (defBody (top 55)) (defScope (top 55)) .none kV doc pm an cdv ct), osl⟩) (c : PySem.W.codeIn K cdv "law" = true) (k : PySem.W.keepIn K (.ref f) = true) :
    ∃ fd, Fun K "law" "law" (top 55) fa fd ∧ ∀ (s : Shared) (u : Value), BindsTo s fd ⟨[u], []⟩ [("_law_script", u)] := by
  have e := hfa.symm.trans (PySem.W.mg_of X G a)
  cases e
  exact ⟨_, fun_mk l c k, fun s v => .of_eq rfl⟩
end
/-- all the classes' facts -/
theorem clss_mk {K : PySem.W.Frag} {h : Heap} {mg : Str → Option Value} {BK CL CT CM CB CN fL fT fM fB fI g : Addr} {nmL qL NL bsL snL subL abL colL ddL k0L k1L k2L k3L k5L} {bmL : List Value} {ocL kVL dcL pmL cdL ctL : Value} {odL anL : Option Addr} {slL : Array (Option Value)} {nmT qT NT bsT snT subT abT colT ddT k0T k1T k2T k3T k5T} {bmT : List Value} {ocT kVT dcT pmT cdT ctT : Value} {odT anT : Option Addr} {slT : Array (Option Value)} {nmM qM NM bsM snM subM abM colM ddM k0M k1M k2M k3M k5M} {bmM : List Value} {ocM kVM dcM pmM cdM ctM : Value} {odM anM : Option Addr} {slM : Array (Option Value)} {nmB qB NB bsB snB subB abB colB ddB k0B k1B k2B k3B k5B} {bmB : List Value} {ocB kVB dcB pmB cdB ctB : Value} {odB anB : Option Addr} {slB : Array (Option Value)} {ocI kVI dcI pmI cdI ctI : Value} {odI anI : Option Addr} {slI : Array (Option Value)} {ocE kVE dcE pmE cdE ctE : Value} {odE anE : Option Addr} {slE : Array (Option Value)} (X : K.In h) (G : h.Ns mainGlobals mg)
    (aK : PySem.W.nsIn K mainGlobals "BookError" = some (some (.ref BK)))
    (aL : PySem.W.nsIn K mainGlobals "BadLetter" = some (some (.ref CL)))
    (lkL : K.lookup CL = some (excClassObj nmL qL CL NL bsL bmL true snL subL abL colL ddL k0L k1L k2L k3L k5L "ValueError.__new__"))
    (hrL : PySem.HandSPX.refsVE bmL = true)
    (saL : PySem.W.findIn K (.ref CL) "__setattr__" = some (some (.builtin "object.__setattr__")))
    (exL : PySem.W.subIn K (.ref CL) (.type "BaseException") = some true)
    (tyL : PySem.W.typeIn K (.ref CL) = some (.type "type"))
    (kcL : PySem.W.keepIn K (.ref CL) = true)
    (hdL : PySem.W.hasDictIn K CL = true)
    (iL : PySem.W.findIn K (.ref CL) "__init__" = some (some (.ref fL)))
    (tL : PySem.W.typeIn K (.ref fL) = some (.type "function"))
    (lfL : K.lookup fL = some ⟨ocL, odL, .func (PySem.W.fnOf "__init__" "BadLetter.__init__" (defArgs (inClass (top 3) 0)) (defBody (inClass (top 3) 0)) (defScope (inClass (top 3) 0)) .none kVL dcL pmL anL cdL ctL), slL⟩)
    (cfL : PySem.W.codeIn K cdL "BadLetter.__init__" = true)
    (kfL : PySem.W.keepIn K (.ref fL) = true)
    (aT : PySem.W.nsIn K mainGlobals "BadTest" = some (some (.ref CT)))
    (lkT : K.lookup CT = some (excClassObj nmT qT CT NT bsT bmT true snT subT abT colT ddT k0T k1T k2T k3T k5T "ValueError.__new__"))
    (hrT : PySem.HandSPX.refsVE bmT = true)
    (saT : PySem.W.findIn K (.ref CT) "__setattr__" = some (some (.builtin "object.__setattr__")))
    (exT : PySem.W.subIn K (.ref CT) (.type "BaseException") = some true)
    (tyT : PySem.W.typeIn K (.ref CT) = some (.type "type"))
    (kcT : PySem.W.keepIn K (.ref CT) = true)
    (hdT : PySem.W.hasDictIn K CT = true)
    (iT : PySem.W.findIn K (.ref CT) "__init__" = some (some (.ref fT)))
    (tT : PySem.W.typeIn K (.ref fT) = some (.type "function"))
    (lfT : K.lookup fT = some ⟨ocT, odT, .func (PySem.W.fnOf "__init__" "BadTest.__init__" (defArgs (inClass (top 4) 0)) (defBody (inClass (top 4) 0)) (defScope (inClass (top 4) 0)) .none kVT dcT pmT anT cdT ctT), slT⟩)
    (cfT : PySem.W.codeIn K cdT "BadTest.__init__" = true)
    (kfT : PySem.W.keepIn K (.ref fT) = true)
    (aM : PySem.W.nsIn K mainGlobals "BadMove" = some (some (.ref CM)))
    (lkM : K.lookup CM = some (excClassObj nmM qM CM NM bsM bmM true snM subM abM colM ddM k0M k1M k2M k3M k5M "ValueError.__new__"))
    (hrM : PySem.HandSPX.refsVE bmM = true)
    (saM : PySem.W.findIn K (.ref CM) "__setattr__" = some (some (.builtin "object.__setattr__")))
    (exM : PySem.W.subIn K (.ref CM) (.type "BaseException") = some true)
    (tyM : PySem.W.typeIn K (.ref CM) = some (.type "type"))
    (kcM : PySem.W.keepIn K (.ref CM) = true)
    (hdM : PySem.W.hasDictIn K CM = true)
    (iM : PySem.W.findIn K (.ref CM) "__init__" = some (some (.ref fM)))
    (tM : PySem.W.typeIn K (.ref fM) = some (.type "function"))
    (lfM : K.lookup fM = some ⟨ocM, odM, .func (PySem.W.fnOf "__init__" "BadMove.__init__" (defArgs (inClass (top 5) 0)) (defBody (inClass (top 5) 0)) (defScope (inClass (top 5) 0)) .none kVM dcM pmM anM cdM ctM), slM⟩)
    (cfM : PySem.W.codeIn K cdM "BadMove.__init__" = true)
    (kfM : PySem.W.keepIn K (.ref fM) = true)
    (aB : PySem.W.nsIn K mainGlobals "BadMachine" = some (some (.ref CB)))
    (lkB : K.lookup CB = some (excClassObj nmB qB CB NB bsB bmB true snB subB abB colB ddB k0B k1B k2B k3B k5B "ValueError.__new__"))
    (hrB : PySem.HandSPX.refsVE bmB = true)
    (saB : PySem.W.findIn K (.ref CB) "__setattr__" = some (some (.builtin "object.__setattr__")))
    (exB : PySem.W.subIn K (.ref CB) (.type "BaseException") = some true)
    (tyB : PySem.W.typeIn K (.ref CB) = some (.type "type"))
    (kcB : PySem.W.keepIn K (.ref CB) = true)
    (hdB : PySem.W.hasDictIn K CB = true)
    (iB : PySem.W.findIn K (.ref CB) "__init__" = some (some (.ref fB)))
    (tB : PySem.W.typeIn K (.ref fB) = some (.type "function"))
    (lfB : K.lookup fB = some ⟨ocB, odB, .func (PySem.W.fnOf "__init__" "BadMachine.__init__" (defArgs (inClass (top 6) 0)) (defBody (inClass (top 6) 0)) (defScope (inClass (top 6) 0)) .none kVB dcB pmB anB cdB ctB), slB⟩)
    (cfB : PySem.W.codeIn K cdB "BadMachine.__init__" = true)
    (kfB : PySem.W.keepIn K (.ref fB) = true)
    (brd : PySem.W.readsIn K BK (.type "type") = true)
    (bga : PySem.W.specialIn K (.ref BK) "__getattribute__" = some (some (.builtin "type.__getattribute__")))
    (bat : PySem.W.findCls K (.ref BK) (.type "type") "__init__" = some (.val (.builtin "ValueError.__init__")))
    (bhd : PySem.W.hasDictIn K BK = true)
    (bty : PySem.W.typeIn K (.ref BK) = some (.type "type"))
    (gaB : PySem.W.findIn K (.ref CB) "__getattribute__" = some (some (.builtin "BaseException.__getattribute__")))
    (ggB : PySem.W.findIn K (.ref CB) "__getattr__" = some none)
    (caB : PySem.W.findIn K (.ref CB) "__class__" = some (some (.builtin "object.__class__")))
    (moB : PySem.W.mroIn K CB (.type "object") = some true)
    (gaM : PySem.W.findIn K (.ref CM) "__getattribute__" = some (some (.builtin "BaseException.__getattribute__")))
    (ggM : PySem.W.findIn K (.ref CM) "__getattr__" = some none)
    (caM : PySem.W.findIn K (.ref CM) "__class__" = some (some (.builtin "object.__class__")))
    (moM : PySem.W.mroIn K CM (.type "object") = some true)
    (cn : PySem.W.specialIn K (.builtin "object.__class__") "__get__" = some (some (.builtin "getset_descriptor.__get__")))
    (ct : PySem.W.takesIn K (.builtin "object.__class__") = some true)
    (noW : PySem.W.findIn K (.ref CB) "what" = some none)
    (noA : PySem.W.findIn K (.ref CB) "at" = some none)
    (sBK : PySem.W.subIn K (.ref CB) (.ref BK) = some true)
    (sMB : PySem.W.subIn K (.ref CM) (.ref CB) = some false)
    (sLL : PySem.W.subIn K (.ref CL) (.ref CL) = some true)
    (sLT : PySem.W.subIn K (.ref CL) (.ref CT) = some false)
    (sTL : PySem.W.subIn K (.ref CT) (.ref CL) = some false)
    (sTT : PySem.W.subIn K (.ref CT) (.ref CT) = some true)
    (sMM : PySem.W.subIn K (.ref CM) (.ref CM) = some true)
    (sBB : PySem.W.subIn K (.ref CB) (.ref CB) = some true)
    (aN : PySem.W.nsIn K mainGlobals "Machine" = some (some (.ref CN)))
    (npg : PySem.W.plainGet K CN Str.empty = true)
    (nhd : PySem.W.hasDictIn K CN = true)
    (npo : PySem.W.plainOver K CN = true)
    (nsa : PySem.W.findIn K (.ref CN) "__setattr__" = some (some (.builtin "object.__setattr__")))
    (nn0 : PySem.W.findIn K (.ref CN) "stations" = some none)
    (nn1 : PySem.W.findIn K (.ref CN) "starts" = some none)
    (nn2 : PySem.W.findIn K (.ref CN) "arrows" = some none)
    (nn3 : PySem.W.findIn K (.ref CN) "rim" = some none)
    (nn4 : PySem.W.findIn K (.ref CN) "block" = some none)
    (nn5 : PySem.W.findIn K (.ref CN) "leaving" = some none)
    (nca : PySem.W.findIn K (.ref CN) "__class__" = some (some (.builtin "object.__class__")))
    (ncm : PySem.W.mroIn K CN (.type "object") = some true)
    (neq : PySem.W.findIn K (.ref CN) "__eq__" = some (some (.ref g)))
    (nfn : PySem.W.isFn K (.ref g) = true)
    (nmk : PySem.W.makesIn K CN = true)
    (nin : PySem.W.findIn K (.ref CN) "__init__" = some (some (.ref fI)))
    (nif : PySem.W.isFn K (.ref fI) = true)
    (nkc : PySem.W.keepIn K (.ref CN) = true)
    (lfI : K.lookup fI = some ⟨ocI, odI, .func (PySem.W.fnOf "__init__" "Machine.__init__" (defArgs (inClass (top 20) 0)) (defBody (inClass (top 20) 0)) (defScope (inClass (top 20) 0)) .none kVI dcI pmI anI cdI ctI), slI⟩)
    (cfI : PySem.W.codeIn K cdI "Machine.__init__" = true)
    (kfI : PySem.W.keepIn K (.ref fI) = true)
    (lfE : K.lookup g = some ⟨ocE, odE, .func (PySem.W.fnOf "__eq__" "Machine.__eq__" (defArgs (inClass (top 20) 1)) (defBody (inClass (top 20) 1)) (defScope (inClass (top 20) 1)) .none kVE dcE pmE anE cdE ctE), slE⟩)
    (cfE : PySem.W.codeIn K cdE "Machine.__eq__" = true)
    (kfE : PySem.W.keepIn K (.ref g) = true)
    : Clss K mg BK CL CT CM CB CN fL fT fM fB fI g := by
  have oL := oex_mk lkL hrL saL exL tyL kcL
  have oT := oex_mk lkT hrT saT exT tyT kcT
  have oM := oex_mk lkM hrM saM exM tyM kcM
  have oB := oex_mk lkB hrB saB exB tyB kcB
  have eMB : PySem.W.kitOne K (.ref CM) (.ref CB) = some false := kit_ref (by
    cases e : (Value.ref CM == Value.ref CB) with
    | false => rfl
    | true =>
      have z : Value.ref CM = Value.ref CB := beq_iff_eq.mp e
      rw [← z, sMM] at sMB
      cases sMB) hdB tyB sMB
  have eBK : PySem.W.kitOne K (.ref CB) (.ref BK) = some true := by
    cases e : (Value.ref CB == Value.ref BK) with
    | false => exact kit_ref e bhd bty sBK
    | true => exact if_pos e
  have eB : ExcC K CB := ⟨gaB, ggB, exB, hdB, caB, cn, ct, moB⟩
  have eM : ExcC K CM := ⟨gaM, ggM, exM, hdM, caM, cn, ct, moM⟩
  exact {
    oL := oL, oT := oT, oM := oM, oB := oB, iL := iL, iT := iT, iM := iM, iB := iB, tL := tL, tT := tT, tM := tM, tB := tB,
    nL := PySem.W.mg_of X G aL, nT := PySem.W.mg_of X G aT, bB := ⟨brd, bga, bat⟩,
    ER := ⟨PySem.W.mg_of X G aK, PySem.W.mg_of X G aM, PySem.W.mg_of X G aB, ⟨gaB, ggB, exB, hdB⟩, noW, noA, eB, eM, eBK, eMB⟩,
    MM := ⟨exm_two (PySem.W.exm_ref exL hdL tyL sLL) (PySem.W.exm_ref exT hdT tyT sLT) rfl, exm_two (PySem.W.exm_ref exL hdL tyL sTL) (PySem.W.exm_ref exT hdT tyT sTT) rfl, PySem.W.exm_ref exM hdM tyM sMM, PySem.W.exm_ref exB hdB tyB sBB⟩,
    MQ := { cl := ⟨npg, nhd, npo, nsa⟩, n1 := nn0, n2 := nn1, n3 := nn2, n4 := nn3, n5 := nn4, n6 := nn5, ca := nca, cn := cn, ct := ct, cm := ncm, kit := kit_self, eqF := neq, eqI := nfn, mgC := PySem.W.mg_of X G aN },
    MK := ⟨nmk, nin, nif, nkc⟩,
    dL := ⟨_, fun_mk lfL cfL kfL⟩, dT := ⟨_, fun_mk lfT cfT kfT⟩, dM := ⟨_, fun_mk lfM cfM kfM⟩, dB := ⟨_, fun_mk lfB cfB kfB⟩, dI := ⟨_, fun_mk lfI cfI kfI⟩, dE := ⟨_, fun_mk lfE cfE kfE⟩ }
theorem fin_mk {l : PySem.W.OpenLaw} {w : World} {K : PySem.W.Frag} {h : Heap} {mg : Str → Option Value} {fa : Addr} (X : K.In h) (G : h.Ns mainGlobals mg) (hfa : mg "law" = some (.ref fa)) (B : Bn mg) (D : Defs K mg)
    (C : ∃ BK CL CT CM CB CN fL fT fM fB fI g : Addr, Clss K mg BK CL CT CM CB CN fL fT fM fB fI g) (L : ∃ fd, Fun K "law" "law" (top 55) fa fd ∧ ∀ (s : Shared) (u : Value), BindsTo s fd ⟨[u], []⟩ [("_law_script", u)]) :
    ∃ fd : FuncData, (∀ (s : Shared) (u : Value), BindsTo s fd ⟨[u], []⟩ [("_law_script", u)]) ∧ ∀ base : Heap, K.In base → base.Ns mainGlobals mg → FnOk l.prog w K mg base CX0 10 fa fd ["_law_script"] (spLaw K) := by
  obtain ⟨BK, CL, CT, CM, CB, CN, fL, fT, fM, fB, fI, g, C⟩ := C
  obtain ⟨fd, F, b⟩ := L
  exact ⟨fd, b, fun base _ _ => all_ok B D C F⟩
end K8
set_option maxRecDepth 100000
open PySem PySem.W PyProof.Rows in
set_option maxRecDepth 100000 in
set_option maxHeartbeats 0 in
theorem PySem.Challenge.cw_truebooks_k08_whole_machines_and_rooms_t_holds : PySem.Challenge.rw_truebooks_k08_whole_machines_and_rooms_t.Holds := by
  w_on; o_law; k_head; (case hw => w_witness2)
  k_fill
  refine K8.walk (l := PySem.Challenge.rw_truebooks_k08_whole_machines_and_rooms_t) rfl rfl (fun w h Y => PySem.W.kIn_of Y) ?F
  case F =>
    intro w mg fa h KX G hmg
    refine' K8.fin_mk KX G hmg ?B ?D ?C ?L
    case B =>
      refine' ⟨PySem.W.mg_none_of KX G ?b0, PySem.W.mg_none_of KX G ?b1, PySem.W.mg_none_of KX G ?b2, PySem.W.mg_none_of KX G ?b3, PySem.W.mg_none_of KX G ?b4, PySem.W.mg_none_of KX G ?b5, PySem.W.mg_none_of KX G ?b6, PySem.W.mg_none_of KX G ?b7, PySem.W.mg_none_of KX G ?b8, PySem.W.mg_none_of KX G ?b9, PySem.W.mg_none_of KX G ?b10, PySem.W.mg_of KX G ?b11⟩
      (case b0 => k_is)
      (case b1 => k_is)
      (case b2 => k_is)
      (case b3 => k_is)
      (case b4 => k_is)
      (case b5 => k_is)
      (case b6 => k_is)
      (case b7 => k_is)
      (case b8 => k_is)
      (case b9 => k_is)
      (case b10 => k_is)
      (case b11 => k_is)
    case D =>
      refine' ⟨K8.dn_mk KX G K8.bd8 ?a8 ?l8 ?c8 ?k8, K8.dn_mk KX G K8.bd9 ?a9 ?l9 ?c9 ?k9, K8.dn_mk KX G K8.bd10 ?a10 ?l10 ?c10 ?k10, K8.dn_mk KX G K8.bd11 ?a11 ?l11 ?c11 ?k11, K8.dn_mk KX G K8.bd12 ?a12 ?l12 ?c12 ?k12, K8.dn_mk KX G K8.bd14 ?a14 ?l14 ?c14 ?k14, K8.dn_mk KX G K8.bd15 ?a15 ?l15 ?c15 ?k15, K8.dn_mk KX G K8.bd16 ?a16 ?l16 ?c16 ?k16, K8.dn_mk KX G K8.bd17 ?a17 ?l17 ?c17 ?k17, K8.dn_mk KX G K8.bd18 ?a18 ?l18 ?c18 ?k18, K8.dn_mk KX G K8.bd19 ?a19 ?l19 ?c19 ?k19, K8.dn_mk KX G K8.bd21 ?a21 ?l21 ?c21 ?k21, K8.dn_mk KX G K8.bd22 ?a22 ?l22 ?c22 ?k22, K8.dn_mk KX G K8.bd24 ?a24 ?l24 ?c24 ?k24, K8.dn_mk KX G K8.bd25 ?a25 ?l25 ?c25 ?k25, K8.dn_mk KX G K8.bd26 ?a26 ?l26 ?c26 ?k26, K8.dn_mk KX G K8.bd27 ?a27 ?l27 ?c27 ?k27, K8.dn_mk KX G K8.bd28 ?a28 ?l28 ?c28 ?k28, K8.dn_mk KX G K8.bd29 ?a29 ?l29 ?c29 ?k29, K8.dn_mk KX G K8.bd30 ?a30 ?l30 ?c30 ?k30, K8.dn_mk KX G K8.bd31 ?a31 ?l31 ?c31 ?k31, K8.dn_mk KX G K8.bd32 ?a32 ?l32 ?c32 ?k32, K8.dn_mk KX G K8.bd33 ?a33 ?l33 ?c33 ?k33, K8.dn_mk KX G K8.bd34 ?a34 ?l34 ?c34 ?k34, K8.dn_mk KX G K8.bd35 ?a35 ?l35 ?c35 ?k35, K8.dn_mk KX G K8.bd36 ?a36 ?l36 ?c36 ?k36, K8.dn_mk KX G K8.bd37 ?a37 ?l37 ?c37 ?k37, K8.dn_mk KX G K8.bd38 ?a38 ?l38 ?c38 ?k38, K8.dn_mk KX G K8.bd39 ?a39 ?l39 ?c39 ?k39, K8.dn_mk KX G K8.bd40 ?a40 ?l40 ?c40 ?k40, K8.dn_mk KX G K8.bd41 ?a41 ?l41 ?c41 ?k41, K8.dn_mk KX G K8.bd42 ?a42 ?l42 ?c42 ?k42, K8.dn_mk KX G K8.bd43 ?a43 ?l43 ?c43 ?k43, K8.dn_mk KX G K8.bd45 ?a45 ?l45 ?c45 ?k45, K8.dn_mk KX G K8.bd46 ?a46 ?l46 ?c46 ?k46, K8.dn_mk KX G K8.bd47 ?a47 ?l47 ?c47 ?k47, K8.dn_mk KX G K8.bd48 ?a48 ?l48 ?c48 ?k48, K8.dn_mk KX G K8.bd49 ?a49 ?l49 ?c49 ?k49, K8.dn_mk KX G K8.bd50 ?a50 ?l50 ?c50 ?k50, K8.dn_mk KX G K8.bd51 ?a51 ?l51 ?c51 ?k51, K8.dn_mk KX G K8.bd52 ?a52 ?l52 ?c52 ?k52, K8.dn_mk KX G K8.bd53 ?a53 ?l53 ?c53 ?k53, K8.dn_mk KX G K8.bd54 ?a54 ?l54 ?c54 ?k54⟩
      (case a8 => k_is)
      (case l8 => k_is)
      (case c8 => k_is)
      (case k8 => k_is)
      (case a9 => k_is)
      (case l9 => k_is)
      (case c9 => k_is)
      (case k9 => k_is)
      (case a10 => k_is)
      (case l10 => k_is)
      (case c10 => k_is)
      (case k10 => k_is)
      (case a11 => k_is)
      (case l11 => k_is)
      (case c11 => k_is)
      (case k11 => k_is)
      (case a12 => k_is)
      (case l12 => k_is)
      (case c12 => k_is)
      (case k12 => k_is)
      (case a14 => k_is)
      (case l14 => k_is)
      (case c14 => k_is)
      (case k14 => k_is)
      (case a15 => k_is)
      (case l15 => k_is)
      (case c15 => k_is)
      (case k15 => k_is)
      (case a16 => k_is)
      (case l16 => k_is)
      (case c16 => k_is)
      (case k16 => k_is)
      (case a17 => k_is)
      (case l17 => k_is)
      (case c17 => k_is)
      (case k17 => k_is)
      (case a18 => k_is)
      (case l18 => k_is)
      (case c18 => k_is)
      (case k18 => k_is)
      (case a19 => k_is)
      (case l19 => k_is)
      (case c19 => k_is)
      (case k19 => k_is)
      (case a21 => k_is)
      (case l21 => k_is)
      (case c21 => k_is)
      (case k21 => k_is)
      (case a22 => k_is)
      (case l22 => k_is)
      (case c22 => k_is)
      (case k22 => k_is)
      (case a24 => k_is)
      (case l24 => k_is)
      (case c24 => k_is)
      (case k24 => k_is)
      (case a25 => k_is)
      (case l25 => k_is)
      (case c25 => k_is)
      (case k25 => k_is)
      (case a26 => k_is)
      (case l26 => k_is)
      (case c26 => k_is)
      (case k26 => k_is)
      (case a27 => k_is)
      (case l27 => k_is)
      (case c27 => k_is)
      (case k27 => k_is)
      (case a28 => k_is)
      (case l28 => k_is)
      (case c28 => k_is)
      (case k28 => k_is)
      (case a29 => k_is)
      (case l29 => k_is)
      (case c29 => k_is)
      (case k29 => k_is)
      (case a30 => k_is)
      (case l30 => k_is)
      (case c30 => k_is)
      (case k30 => k_is)
      (case a31 => k_is)
      (case l31 => k_is)
      (case c31 => k_is)
      (case k31 => k_is)
      (case a32 => k_is)
      (case l32 => k_is)
      (case c32 => k_is)
      (case k32 => k_is)
      (case a33 => k_is)
      (case l33 => k_is)
      (case c33 => k_is)
      (case k33 => k_is)
      (case a34 => k_is)
      (case l34 => k_is)
      (case c34 => k_is)
      (case k34 => k_is)
      (case a35 => k_is)
      (case l35 => k_is)
      (case c35 => k_is)
      (case k35 => k_is)
      (case a36 => k_is)
      (case l36 => k_is)
      (case c36 => k_is)
      (case k36 => k_is)
      (case a37 => k_is)
      (case l37 => k_is)
      (case c37 => k_is)
      (case k37 => k_is)
      (case a38 => k_is)
      (case l38 => k_is)
      (case c38 => k_is)
      (case k38 => k_is)
      (case a39 => k_is)
      (case l39 => k_is)
      (case c39 => k_is)
      (case k39 => k_is)
      (case a40 => k_is)
      (case l40 => k_is)
      (case c40 => k_is)
      (case k40 => k_is)
      (case a41 => k_is)
      (case l41 => k_is)
      (case c41 => k_is)
      (case k41 => k_is)
      (case a42 => k_is)
      (case l42 => k_is)
      (case c42 => k_is)
      (case k42 => k_is)
      (case a43 => k_is)
      (case l43 => k_is)
      (case c43 => k_is)
      (case k43 => k_is)
      (case a45 => k_is)
      (case l45 => k_is)
      (case c45 => k_is)
      (case k45 => k_is)
      (case a46 => k_is)
      (case l46 => k_is)
      (case c46 => k_is)
      (case k46 => k_is)
      (case a47 => k_is)
      (case l47 => k_is)
      (case c47 => k_is)
      (case k47 => k_is)
      (case a48 => k_is)
      (case l48 => k_is)
      (case c48 => k_is)
      (case k48 => k_is)
      (case a49 => k_is)
      (case l49 => k_is)
      (case c49 => k_is)
      (case k49 => k_is)
      (case a50 => k_is)
      (case l50 => k_is)
      (case c50 => k_is)
      (case k50 => k_is)
      (case a51 => k_is)
      (case l51 => k_is)
      (case c51 => k_is)
      (case k51 => k_is)
      (case a52 => k_is)
      (case l52 => k_is)
      (case c52 => k_is)
      (case k52 => k_is)
      (case a53 => k_is)
      (case l53 => k_is)
      (case c53 => k_is)
      (case k53 => k_is)
      (case a54 => k_is)
      (case l54 => k_is)
      (case c54 => k_is)
      (case k54 => k_is)
    case C =>
      refine' ⟨_, _, _, _, _, _, _, _, _, _, _, _, K8.clss_mk KX G ?aK ?aL ?lkL ?hrL ?saL ?exL ?tyL ?kcL ?hdL ?iL ?tL ?lfL ?cfL ?kfL ?aT ?lkT ?hrT ?saT ?exT ?tyT ?kcT ?hdT ?iT ?tT ?lfT ?cfT ?kfT ?aM ?lkM ?hrM ?saM ?exM ?tyM ?kcM ?hdM ?iM ?tM ?lfM ?cfM ?kfM ?aB ?lkB ?hrB ?saB ?exB ?tyB ?kcB ?hdB ?iB ?tB ?lfB ?cfB ?kfB ?brd ?bga ?bat ?bhd ?bty ?gaB ?ggB ?caB ?moB ?gaM ?ggM ?caM ?moM ?cn ?ct ?noW ?noA ?sBK ?sMB ?sLL ?sLT ?sTL ?sTT ?sMM ?sBB ?aN ?npg ?nhd ?npo ?nsa ?nn0 ?nn1 ?nn2 ?nn3 ?nn4 ?nn5 ?nca ?ncm ?neq ?nfn ?nmk ?nin ?nif ?nkc ?lfI ?cfI ?kfI ?lfE ?cfE ?kfE⟩
      (case aK => k_is)
      (case aL => k_is)
      (case lkL => k_is)
      (case hrL => rfl)
      (case saL => k_is)
      (case exL => k_is)
      (case tyL => k_is)
      (case kcL => k_is)
      (case hdL => k_is)
      (case iL => k_is)
      (case tL => k_is)
      (case lfL => k_is)
      (case cfL => k_is)
      (case kfL => k_is)
      (case aT => k_is)
      (case lkT => k_is)
      (case hrT => rfl)
      (case saT => k_is)
      (case exT => k_is)
      (case tyT => k_is)
      (case kcT => k_is)
      (case hdT => k_is)
      (case iT => k_is)
      (case tT => k_is)
      (case lfT => k_is)
      (case cfT => k_is)
      (case kfT => k_is)
      (case aM => k_is)
      (case lkM => k_is)
      (case hrM => rfl)
      (case saM => k_is)
      (case exM => k_is)
      (case tyM => k_is)
      (case kcM => k_is)
      (case hdM => k_is)
      (case iM => k_is)
      (case tM => k_is)
      (case lfM => k_is)
      (case cfM => k_is)
      (case kfM => k_is)
      (case aB => k_is)
      (case lkB => k_is)
      (case hrB => rfl)
      (case saB => k_is)
      (case exB => k_is)
      (case tyB => k_is)
      (case kcB => k_is)
      (case hdB => k_is)
      (case iB => k_is)
      (case tB => k_is)
      (case lfB => k_is)
      (case cfB => k_is)
      (case kfB => k_is)
      (case brd => k_is)
      (case bga => k_is)
      (case bat => k_is)
      (case bhd => k_is)
      (case bty => k_is)
      (case gaB => k_is)
      (case ggB => k_is)
      (case caB => k_is)
      (case moB => k_is)
      (case gaM => k_is)
      (case ggM => k_is)
      (case caM => k_is)
      (case moM => k_is)
      (case cn => k_is)
      (case ct => k_is)
      (case noW => k_is)
      (case noA => k_is)
      (case sBK => k_is)
      (case sMB => k_is)
      (case sLL => k_is)
      (case sLT => k_is)
      (case sTL => k_is)
      (case sTT => k_is)
      (case sMM => k_is)
      (case sBB => k_is)
      (case aN => k_is)
      (case npg => k_is)
      (case nhd => k_is)
      (case npo => k_is)
      (case nsa => k_is)
      (case nn0 => k_is)
      (case nn1 => k_is)
      (case nn2 => k_is)
      (case nn3 => k_is)
      (case nn4 => k_is)
      (case nn5 => k_is)
      (case nca => k_is)
      (case ncm => k_is)
      (case neq => k_is)
      (case nfn => k_is)
      (case nmk => k_is)
      (case nin => k_is)
      (case nif => k_is)
      (case nkc => k_is)
      (case lfI => k_is)
      (case cfI => k_is)
      (case kfI => k_is)
      (case lfE => k_is)
      (case cfE => k_is)
      (case kfE => k_is)
    case L =>
      refine' K8.law_mk KX G hmg ?a ?l ?c ?k
      (case a => k_is)
      (case l => k_is)
      (case c => k_is)
      (case k => k_is)
