import PyProof.Rows.All
import Wide.All
import OpenK.AllK
import Wide.FinOn
import PySem.Challenge.RW_rh0083_01
open PySem PySem.W PySem.Calls PyProof.Rows
set_option Elab.async false
set_option maxRecDepth 100000
set_option maxHeartbeats 4000000
set_option linter.all false
set_option compiler.extract_closed false
namespace Mine
noncomputable def isStar : Expr → Bool
  | .Starred .. => true
  | _ => false
theorem star_cons {e : Expr} {rest : List Expr} {env : Env} (h : isStar e = false) : starEach (e :: rest) env = (false, eval e env) :: starEach rest env := by
  cases e <;> first | rfl | cases h
noncomputable def noStar (es : List Expr) : Bool := es.all fun e => !isStar e
theorem star_any {pos : Pos} {env : Env} : ∀ {es : List Expr}, noStar es = true → (backTo pos (starEach es env)).any (·.1) = false
  | [], _ => rfl
  | e :: es, h => by
    have h' : isStar e = false ∧ noStar es = true := by simpa [noStar] using h
    rw [star_cons h'.1]
    show (false || (backTo pos (starEach es env)).any (·.1)) = false
    rw [star_any h'.2]; rfl
noncomputable def isCall : Expr → Bool
  | .Call .. => true
  | _ => false
theorem base_of {o : Expr} {attr : Str} {env : Env} (h : isCall o = false) : attributeBase o attr env (eval o env) = eval o env := by
  cases o <;> first | rfl | cases h
noncomputable def isTest : Expr → Bool
  | .UnaryOp .. | .BoolOp .. | .IfExp .. | .Compare .. => true
  | _ => false
theorem test_of {e : Expr} {env : Env} (h : isTest e = false) (whole : Sem Value) : isTrue e env whole = (do let v ← whole; standAt e.pos; holding [v] (truthy v)) := by
  cases e <;> first | rfl | cases h
noncomputable def isSl : Expr → Bool
  | .Slice .. => true
  | _ => false
theorem sub_of {slice : Expr} (h : isSl slice = false) (o i : Value) : subscripted slice false o i = operate [o, i] (getItem o i) := by
  cases slice <;> first | rfl | cases h
noncomputable def isSet : Expr → Bool
  | .Set .. => true
  | _ => false
theorem mark_of {op : CmpOp} {r : Expr} (h : isSet r = false) : behindInMarks op r = false := by
  cases r <;> first | rfl | cases h
theorem fold_of {iter : Expr} {env : Env} (h : isSet iter = false) (x : Value) : foldedSetIterable iter env x = pure x := by
  cases iter <;> first | rfl | cases h
noncomputable def isComp : Expr → Bool
  | .ListComp .. | .SetComp .. | .DictComp .. => true
  | _ => false
theorem swap_of {value : Expr} {t : Option Expr} {line : Nat} {env : Env} (h : isComp value = false) : swapsWith value t line env = pure false := by
  cases value <;> first | rfl | cases h
/-- abstract values: data without lists (kept for ever), or a reference -/
inductive V where
  | dat (d : PyData)
  | obj (a : Addr)

noncomputable abbrev V.int (i : Int) : V := .dat (.int i)
noncomputable abbrev V.str (x : Str) : V := .dat (.str x)
noncomputable abbrev V.bool (b : Bool) : V := .dat (.bool b)
noncomputable abbrev V.none : V := .dat .none
noncomputable abbrev V.tup (xs : List PyData) : V := .dat (.tuple xs)

mutual
noncomputable def fz : PyData → Bool
  | .none | .bool _ | .int _ => true
  | .str x => PyData.strOk x
  | .tuple xs => fzs xs
  | .list _ | .dict _ => false
noncomputable def fzs : List PyData → Bool
  | [] => true
  | x :: xs => fz x && fzs xs
end

noncomputable def okD (d : PyData) : Bool := fz d && decide (d.depth ≤ 8)

noncomputable def TupKeep (h h' : Heap) : Prop := ∀ a o xs n, h.get? a = some o → o.cls = .type "tuple" → o.data = .seq xs n → h'.get? a = some o

theorem TupKeep.refl (h : Heap) : TupKeep h h := fun _ _ _ _ e _ _ => e
theorem TupKeep.trans {h₁ h₂ h₃ : Heap} (x : TupKeep h₁ h₂) (y : TupKeep h₂ h₃) : TupKeep h₁ h₃ := fun a o xs n e c d => y a o xs n (x a o xs n e c d) c d
theorem TupKeep.of_keep {h h' : Heap} (k : ∀ b o, h.get? b = some o → h'.get? b = some o) : TupKeep h h' := fun a o _ _ e _ _ => k a o e

theorem reads_keep_ {h h' : Heap} (k : TupKeep h h') {v : Value} {d : PyData} {as : List Addr} (r : Reads h v d as) : fz d = true → Reads h' v d as :=
  Reads.rec (motive_1 := fun v d as _ => fz d = true → Reads h' v d as) (motive_2 := fun vs ds as _ => fzs ds = true → ReadsAll h' vs ds as)
    (fun _ => .none) (fun b _ => .bool b) (fun i t _ => .int i t) (fun x t _ => .str x t) (fun _ _ _ _ _ hf => Bool.noConfusion hf)
    (fun h1 h2 h3 _ ih hf => .tuple (k _ _ _ _ h1 h2 h3) h2 h3 (ih hf)) (fun _ _ _ _ _ _ _ hf => Bool.noConfusion hf)
    (fun _ => .nil) (fun _ _ ih1 ih2 hf => .cons (ih1 (Bool.and_eq_true_iff.mp hf).1) (ih2 (Bool.and_eq_true_iff.mp hf).2)) r
theorem reads_keep {h h' : Heap} (k : TupKeep h h') (d : PyData) {v : Value} {as : List Addr} (hf : fz d = true) (r : Reads h v d as) : Reads h' v d as := reads_keep_ k r hf

mutual
theorem fz_canLay : ∀ d : PyData, fz d = true → d.canLay0 = true
  | .none, _ => by simp [PyData.canLay0]
  | .bool _, _ => by simp [PyData.canLay0]
  | .int _, _ => by simp [PyData.canLay0]
  | .str x, h => by simpa [PyData.canLay0, fz] using h
  | .tuple xs, h => by simp only [PyData.canLay0]; exact fzs_canLay xs (by simpa [fz] using h)
  | .list _, h => by simp [fz] at h
  | .dict _, h => by simp [fz] at h
theorem fzs_canLay : ∀ ds : List PyData, fzs ds = true → PyData.canLayAll0 ds = true
  | [], _ => by simp [PyData.canLayAll0]
  | d :: ds, h => by
    have hf' : fz d = true ∧ fzs ds = true := by simpa [fzs] using h
    simp [PyData.canLayAll0, fz_canLay d hf'.1, fzs_canLay ds hf'.2]
end

-- no bool inside: then ==  is equality of data
mutual
noncomputable def nb : PyData → Bool
  | .none | .int _ | .str _ => true
  | .tuple xs => nbs xs
  | .bool _ | .list _ | .dict _ => false
noncomputable def nbs : List PyData → Bool
  | [] => true
  | x :: xs => nb x && nbs xs
end
mutual
theorem eqv_iff : ∀ d e : PyData, nb d = true → nb e = true → (PyData.eqv d e = true ↔ d = e)
  | .none, e, _, he => by cases e <;> simp_all [PyData.eqv, nb]
  | .int i, e, _, he => by cases e <;> simp_all [PyData.eqv, nb]
  | .str i, e, _, he => by cases e <;> simp_all [PyData.eqv, nb]
  | .tuple xs, e, hd, he => by
    cases e with
    | tuple ys =>
      have := eqvAll_iff xs ys (by simpa [nb] using hd) (by simpa [nb] using he)
      simp only [PyData.eqv, PyData.tuple.injEq]
      exact this
    | _ => simp_all [PyData.eqv, nb]
  | .bool _, _, hd, _ => by simp [nb] at hd
  | .list _, _, hd, _ => by simp [nb] at hd
  | .dict _, _, hd, _ => by simp [nb] at hd
theorem eqvAll_iff : ∀ ds es : List PyData, nbs ds = true → nbs es = true → (PyData.eqvAll ds es = true ↔ ds = es)
  | [], [], _, _ => by simp [PyData.eqvAll]
  | [], _ :: _, _, _ => by simp [PyData.eqvAll]
  | _ :: _, [], _, _ => by simp [PyData.eqvAll]
  | d :: ds, e :: es, hd, he => by
    have hd' : nb d = true ∧ nbs ds = true := by simpa [nbs] using hd
    have he' : nb e = true ∧ nbs es = true := by simpa [nbs] using he
    simp only [PyData.eqvAll, Bool.and_eq_true, eqv_iff d e hd'.1 he'.1, eqvAll_iff ds es hd'.2 he'.2, List.cons.injEq]
end

/-- the value v stands for the abstract value -/
noncomputable def VR (h : Heap) : V → Value → Prop
  | .dat d, v => okD d = true ∧ ∃ as, Reads h v d as
  | .obj a, v => v = .ref a

theorem VR.keep {h h' : Heap} (k : TupKeep h h') {v : V} {x : Value} (r : VR h v x) : VR h' v x := by
  cases v with
  | obj a => exact r
  | dat d =>
    obtain ⟨ok, as, rd⟩ := r
    exact ⟨ok, as, reads_keep k d (by simp [okD] at ok; exact ok.1) rd⟩

inductive VRs (h : Heap) : List V → List Value → Prop
  | nil : VRs h [] []
  | cons {v x vs xs} : VR h v x → VRs h vs xs → VRs h (v :: vs) (x :: xs)

theorem VRs.keep {h h' : Heap} (k : TupKeep h h') {vs : List V} {xs : List Value} (r : VRs h vs xs) : VRs h' vs xs := by
  induction r with
  | nil => exact .nil
  | cons a _ ih => exact .cons (a.keep k) ih
theorem VRs.length {h : Heap} {vs : List V} {xs : List Value} (r : VRs h vs xs) : vs.length = xs.length := by
  induction r with
  | nil => rfl
  | cons _ _ ih => simp [ih]
theorem VRs.get {h : Heap} {vs : List V} {xs : List Value} (r : VRs h vs xs) {i : Nat} {v : V} (e : vs[i]? = some v) : ∃ x, xs[i]? = some x ∧ VR h v x := by
  induction r generalizing i with
  | nil => simp at e
  | cons a _ ih =>
    cases i with
    | zero => simp at e; subst e; exact ⟨_, rfl, a⟩
    | succ i => simpa using ih (by simpa using e)
theorem VRs.append {h : Heap} {vs ws : List V} {xs ys : List Value} (r : VRs h vs xs) (q : VRs h ws ys) : VRs h (vs ++ ws) (xs ++ ys) := by
  induction r with
  | nil => exact q
  | cons a _ ih => exact .cons a ih
theorem VRs.take {h : Heap} {vs : List V} {xs : List Value} (r : VRs h vs xs) (n : Nat) : VRs h (vs.take n) (xs.take n) := by
  induction r generalizing n with
  | nil => simpa using VRs.nil
  | cons a _ ih =>
    cases n with
    | zero => exact .nil
    | succ n => exact .cons a (ih n)
theorem VRs.drop {h : Heap} {vs : List V} {xs : List Value} (r : VRs h vs xs) (n : Nat) : VRs h (vs.drop n) (xs.drop n) := by
  induction r generalizing n with
  | nil => simpa using VRs.nil
  | cons a q ih =>
    cases n with
    | zero => exact .cons a q
    | succ n => exact ih n
theorem VRs.reverse {h : Heap} {vs : List V} {xs : List Value} (r : VRs h vs xs) : VRs h vs.reverse xs.reverse := by
  induction r with
  | nil => exact .nil
  | cons a _ ih => rw [List.reverse_cons, List.reverse_cons]; exact ih.append (.cons a .nil)
theorem VRs.set {h : Heap} {vs : List V} {xs : List Value} (r : VRs h vs xs) (i : Nat) {v : V} {x : Value} (a : VR h v x) : VRs h (vs.set i v) (xs.set i x) := by
  induction r generalizing i with
  | nil => simpa using VRs.nil
  | cons b q ih =>
    cases i with
    | zero => exact .cons a q
    | succ i => exact .cons b (ih i)
theorem VRs.one {h : Heap} {v : V} {x : Value} (a : VR h v x) : VRs h [v] [x] := .cons a .nil

/-- all data: the list of PyData as abstract values -/
noncomputable abbrev dats (ds : List PyData) : List V := ds.map V.dat
theorem VRs.reads {h : Heap} : ∀ {ds : List PyData} {xs : List Value}, VRs h (dats ds) xs → ∃ as, ReadsAll h xs ds as
  | [], _, .nil => ⟨_, .nil⟩
  | _ :: _, _, .cons a q => let ⟨_, r1⟩ := a.2; let ⟨_, r2⟩ := q.reads; ⟨_, .cons r1 r2⟩
theorem VRs.okAll {h : Heap} : ∀ {ds : List PyData} {xs : List Value}, VRs h (dats ds) xs → ∀ d ∈ ds, okD d = true
  | [], _, _, _, hd => by cases hd
  | d :: ds, _, .cons a q, e, he => by
    rcases List.mem_cons.mp he with rfl | he
    · exact a.1
    · exact q.okAll e he
theorem fzs_of : ∀ {ds : List PyData}, (∀ d ∈ ds, okD d = true) → fzs ds = true
  | [], _ => rfl
  | d :: ds, h => by
    have h1 := h d (.head _)
    simp only [okD, Bool.and_eq_true] at h1
    simp [fzs, h1.1, fzs_of fun e he => h e (.tail _ he)]
theorem depthAll_of : ∀ {ds : List PyData} {n : Nat}, (∀ d ∈ ds, d.depth ≤ n) → PyData.depthAll ds ≤ n
  | [], _, _ => by simp [PyData.depthAll]
  | d :: ds, n, h => by
    have h1 := h d (.head _)
    have h2 := depthAll_of fun e he => h e (.tail _ he)
    simp only [PyData.depthAll]; omega
theorem VRs.of_readsAll {h : Heap} {ds : List PyData} {xs : List Value} {as : List Addr} (r : ReadsAll h xs ds as) : (∀ d ∈ ds, okD d = true) → VRs h (dats ds) xs :=
  ReadsAll.rec (motive_1 := fun _ _ _ _ => True) (motive_2 := fun xs ds _ _ => (∀ d ∈ ds, okD d = true) → VRs h (dats ds) xs)
    trivial (fun _ => trivial) (fun _ _ => trivial) (fun _ _ => trivial) (fun _ _ _ _ _ => trivial) (fun _ _ _ _ _ => trivial) (fun _ _ _ _ _ _ _ => trivial)
    (fun _ => .nil) (fun r1 _ _ ih hd => .cons ⟨hd _ (.head _), _, r1⟩ (ih fun d h => hd d (.tail _ h))) r
noncomputable abbrev pw : Program := PySem.Challenge.pw_rh0083_01

structure Cx where
  w : World
  K : Frag
  h₀ : Heap
  mg : Str → Option Value
  mb : Str → Option Value
  os : OsState
  cls : Addr → Prop   -- classes of the text whose instances are plain

noncomputable abbrev Cx.M (C : Cx) : Model := model pw C.w

structure Cx.Ok (C : Cx) : Prop where
  kin : C.K.In C.h₀
  g : C.h₀.Ns mainGlobals C.mg
  b : C.h₀.Ns builtinsNs C.mb
  nolimit : C.h₀.NoLimit
  builtins : ∀ x : Str, x ≠ "__name__" → C.mb x = bootBuiltins x

inductive AObj where
  | list (vs : List V)
  | rlist (vs : List V)
  | rng (a b : Int)
  | inst (C : Addr) (d : Addr)
  | attrs (fs : List (Str × V))
  | dS (kvs : List (Str × V))
  | dI (kvs : List (Int × V))
  | dT (kvs : List (List Int × V))

inductive KVs {κ : Type} (h : Heap) : List (κ × V) → List (κ × Value) → Prop
  | nil : KVs h [] []
  | cons {k v x vs xs} : VR h v x → KVs h vs xs → KVs h ((k, v) :: vs) ((k, x) :: xs)
theorem KVs.keep {κ : Type} {h h' : Heap} (k : TupKeep h h') {vs : List (κ × V)} {xs : List (κ × Value)} (r : KVs h vs xs) : KVs h' vs xs := by
  induction r with
  | nil => exact .nil
  | cons a _ ih => exact .cons (a.keep k) ih
theorem KVs.length {κ : Type} {h : Heap} {vs : List (κ × V)} {xs : List (κ × Value)} (r : KVs h vs xs) : vs.length = xs.length := by
  induction r with
  | nil => rfl
  | cons _ _ ih => simp [ih]

-- keyed by a tuple: the key's address stands between
inductive KVT (h : Heap) : List (List Int × V) → List (List Int × Addr × Value) → Prop
  | nil : KVT h [] []
  | cons {k a v x vs xs} : VR h v x → KVT h vs xs → KVT h ((k, v) :: vs) ((k, a, x) :: xs)
theorem KVT.keep {h h' : Heap} (k : TupKeep h h') {vs : List (List Int × V)} {xs : List (List Int × Addr × Value)} (r : KVT h vs xs) : KVT h' vs xs := by
  induction r with
  | nil => exact .nil
  | cons a _ ih => exact .cons (a.keep k) ih
theorem KVT.length {h : Heap} {vs : List (List Int × V)} {xs : List (List Int × Addr × Value)} (r : KVT h vs xs) : vs.length = xs.length := by
  induction r with
  | nil => rfl
  | cons _ _ ih => simp [ih]

noncomputable abbrev tKind (w : World) : HeapKind pw w (List Int) := tupleKind (intKind pw w)

noncomputable def ObjR (w : World) (h : Heap) (a : Addr) : AObj → Prop
  | .list vs => ∃ xs n, IsL h a xs n ∧ VRs h vs xs.toList
  | .rlist vs => ∃ xs, h.IsList a xs ∧ VRs h vs xs.toList
  | .rng x y => ∃ t u v, IsRange h a x y 1 t u v
  | .inst C d => h.get? a = some (instObj C d)
  | .attrs fs => ∃ es n, h.get? a = some (PySem.W.dictOf es n) ∧ es.length ≤ fs.length ∧ (∀ e ∈ es, ∃ x t, e.key = Value.str x t) ∧ ∀ x, (∀ v, fs.lookup x = some v → ∃ y, getL x es = some (some y) ∧ VR h v y) ∧ (fs.lookup x = none → getL x es = some none)
  | .dS kvs => ∃ ys, h.DictOf (strKind pw w) a ys ∧ KVs h kvs ys
  | .dI kvs => ∃ ys, h.DictOf (intKind pw w) a ys ∧ KVs h kvs ys
  | .dT kvs => ∃ ys, h.DictOfH (tKind w) a ys ∧ KVT h kvs ys

noncomputable abbrev AH := Addr → Option AObj
noncomputable def upd (σ : AH) (a : Addr) (x : AObj) : AH := fun b => if b = a then some x else σ b
theorem upd_same (σ : AH) (a : Addr) (x : AObj) : upd σ a x a = some x := if_pos rfl
theorem upd_other {σ : AH} {a b : Addr} {x : AObj} (h : b ≠ a) : upd σ a x b = σ b := if_neg h
theorem upd_old {σ : AH} {a b : Addr} {x y : AObj} (ha : σ a = none) (hb : σ b = some y) : upd σ a x b = some y := by
  rw [upd_other]; exact hb
  rintro rfl; rw [ha] at hb; cases hb
theorem ne_of {σ : AH} {a b : Addr} {y : AObj} (ha : σ a = none) (hb : σ b = some y) : b ≠ a := by
  rintro rfl; rw [ha] at hb; cases hb

theorem itemKey_keep {w : World} {h h' : Heap} (k : TupKeep h h') {ks : List Int} {a : Addr} (x : IsTupleKey (intKind pw w) h ks a) : IsTupleKey (intKind pw w) h' ks a := by
  obtain ⟨o, items, n, ho, hc, hd, hi⟩ := x
  exact ⟨o, items, n, k _ _ _ _ ho hc hd, hc, hd, hi⟩

noncomputable def NoTup (o : Obj) : Prop := ∀ xs n, o.cls = .type "tuple" → o.data ≠ .seq xs n
theorem NoTup.of_cls {o : Obj} (h : o.cls ≠ .type "tuple") : NoTup o := fun _ _ e => absurd e h
theorem NoTup.of_dict {o : Obj} {es ep} (h : o.data = .dict es ep) : NoTup o := fun _ _ _ e => by rw [h] at e; cases e
theorem ObjR.ex {w : World} {h : Heap} {a : Addr} {x : AObj} (r : ObjR w h a x) : ∃ o, h.get? a = some o ∧ NoTup o := by
  cases x with
  | list vs => obtain ⟨xs, n, e, _⟩ := r; exact ⟨_, e, .of_cls (by show Value.type "list" ≠ Value.type "tuple"; decide)⟩
  | rlist vs => obtain ⟨xs, ⟨o, ho, hc, _⟩, _⟩ := r; exact ⟨o, ho, .of_cls (by rw [hc]; decide)⟩
  | rng x y => obtain ⟨t, u, v, e⟩ := r; exact ⟨_, e, .of_cls (by show Value.type "range" ≠ Value.type "tuple"; decide)⟩
  | inst C d => exact ⟨_, r, .of_cls fun e => by cases e⟩
  | attrs fs => obtain ⟨es, n, e, _⟩ := r; exact ⟨_, e, .of_dict rfl⟩
  | dS kvs => obtain ⟨ys, ⟨o, es, ep, ho, hc, _⟩, _⟩ := r; exact ⟨o, ho, .of_cls (by rw [hc.1]; decide)⟩
  | dI kvs => obtain ⟨ys, ⟨o, es, ep, ho, hc, _⟩, _⟩ := r; exact ⟨o, ho, .of_cls (by rw [hc.1]; decide)⟩
  | dT kvs => obtain ⟨ys, ⟨o, es, ep, ho, hc, _⟩, _⟩ := r; exact ⟨o, ho, .of_cls (by rw [hc.1]; decide)⟩

theorem ObjR.keep {w : World} {h h' : Heap} {a : Addr} {x : AObj} (r : ObjR w h a x) (k : TupKeep h h') (e : ∀ o, h.get? a = some o → h'.get? a = some o) : ObjR w h' a x := by
  cases x with
  | list vs => obtain ⟨xs, n, q, p⟩ := r; exact ⟨xs, n, e _ q, p.keep k⟩
  | rlist vs => obtain ⟨xs, ⟨o, ho, q⟩, p⟩ := r; exact ⟨xs, ⟨o, e _ ho, q⟩, p.keep k⟩
  | rng x y => obtain ⟨t, u, v, q⟩ := r; exact ⟨t, u, v, e _ q⟩
  | inst C d => exact e _ r
  | attrs fs =>
    obtain ⟨es, n, ho, hl, hk, p⟩ := r
    exact ⟨es, n, e _ ho, hl, hk, fun x => ⟨fun v hv => let ⟨y, hy, r⟩ := (p x).1 v hv; ⟨y, hy, r.keep k⟩, (p x).2⟩⟩
  | dS kvs => obtain ⟨ys, ⟨o, es, ep, ho, q⟩, p⟩ := r; exact ⟨ys, ⟨o, es, ep, e _ ho, q⟩, p.keep k⟩
  | dI kvs => obtain ⟨ys, ⟨o, es, ep, ho, q⟩, p⟩ := r; exact ⟨ys, ⟨o, es, ep, e _ ho, q⟩, p.keep k⟩
  | dT kvs =>
    obtain ⟨ys, ⟨o, es, ep, ho, q1, q2, q3, q4, q5⟩, p⟩ := r
    exact ⟨ys, ⟨o, es, ep, e _ ho, q1, q2, q3, fun y hy => itemKey_keep k (q4 y hy), q5⟩, p.keep k⟩

structure SR (C : Cx) (σ : AH) (s : Shared) : Prop where
  keep : ∀ b o, C.h₀.get? b = some o → s.heap.get? b = some o
  gens : s.gens = #[]
  os : s.os = C.os
  objs : ∀ a x, σ a = some x → ObjR C.w s.heap a x ∧ C.h₀.get? a = none ∧ a ≠ sysModules

structure Step (σ : AH) (s : Shared) (σ' : AH) (s' : Shared) : Prop where
  keep : ∀ b o, s.heap.get? b = some o → σ b = none → s'.heap.get? b = some o
  dom : ∀ b, σ' b ≠ none → σ b ≠ none ∨ s.heap.get? b = none
  mono : ∀ b, σ b ≠ none → σ' b ≠ none

theorem SR.off {C : Cx} {σ : AH} {s : Shared} (S : SR C σ s) {b : Addr} {o : Obj} (e : C.h₀.get? b = some o) : σ b = none := by
  cases h : σ b with
  | none => rfl
  | some x => have := (S.objs b x h).2.1; rw [e] at this; cases this

theorem Step.refl (σ : AH) (s : Shared) : Step σ s σ s := ⟨fun _ _ e _ => e, fun _ e => .inl e, fun _ e => e⟩
theorem Step.trans {σ₁ σ₂ σ₃ : AH} {s₁ s₂ s₃ : Shared} (x : Step σ₁ s₁ σ₂ s₂) (y : Step σ₂ s₂ σ₃ s₃) : Step σ₁ s₁ σ₃ s₃ := by
  have off : ∀ b o, s₁.heap.get? b = some o → σ₁ b = none → σ₂ b = none := fun b o e e1 => by
    cases h : σ₂ b with
    | none => rfl
    | some z =>
      rcases x.dom b (by rw [h]; exact Option.some_ne_none _) with q | q
      · exact absurd e1 q
      · rw [e] at q; cases q
  refine ⟨fun b o e e1 => y.keep b o (x.keep b o e e1) (off b o e e1), fun b e => ?_, fun b e => y.mono b (x.mono b e)⟩
  rcases y.dom b e with q | q
  · exact x.dom b q
  · cases h1 : σ₁ b with
    | some z => exact .inl (Option.some_ne_none _)
    | none =>
      cases h2 : s₁.heap.get? b with
      | none => exact .inr rfl
      | some o => rw [x.keep b o h2 h1] at q; cases q
theorem Step.off {σ σ' : AH} {s s' : Shared} (x : Step σ s σ' s') {b : Addr} {o : Obj} (e : s.heap.get? b = some o) (e1 : σ b = none) : σ' b = none := by
  cases h : σ' b with
  | none => rfl
  | some z =>
    rcases x.dom b (by rw [h]; exact Option.some_ne_none _) with q | q
    · exact absurd e1 q
    · rw [e] at q; cases q
theorem Step.tup {C : Cx} {σ σ' : AH} {s s' : Shared} (S : SR C σ s) (x : Step σ s σ' s') : TupKeep s.heap s'.heap := fun a o xs n e c d => by
  refine x.keep a o e ?_
  cases h : σ a with
  | none => rfl
  | some z =>
    obtain ⟨o', ho, hc⟩ := ObjR.ex (S.objs a z h).1
    rw [e] at ho; cases ho; exact absurd d (hc xs n c)

/-- the state has only grown, σ stands -/
theorem SR.grow {C : Cx} {σ : AH} {s s' : Shared} (S : SR C σ s) (k : ∀ b o, s.heap.get? b = some o → s'.heap.get? b = some o) (hg : s'.gens = s.gens) (ho : s'.os = s.os) : SR C σ s' :=
  ⟨fun b o e => k _ _ (S.keep b o e), hg.trans S.gens, ho.trans S.os, fun a x e => ⟨ObjR.keep (S.objs a x e).1 (TupKeep.of_keep k) (fun o q => k _ _ q), (S.objs a x e).2⟩⟩
theorem Step.grow {σ : AH} {s s' : Shared} (k : ∀ b o, s.heap.get? b = some o → s'.heap.get? b = some o) : Step σ s σ s' := ⟨fun b o e _ => k b o e, fun _ e => .inl e, fun _ e => e⟩
theorem SR.toks {C : Cx} {σ : AH} {s : Shared} (S : SR C σ s) (t : Nat) : SR C σ { s with toks := t } := S.grow (fun _ _ e => e) rfl rfl

/-- a change at an address that σ does not know (a frame, a cell, an iterator) -/
theorem SR.but {C : Cx} {σ : AH} {s s' : Shared} {L : Addr} (S : SR C σ s) (hL : σ L = none) (h0 : C.h₀.get? L = none) (ht : ∀ o xs n, s.heap.get? L = some o → o.data ≠ .seq xs n) (k : ∀ b o, b ≠ L → s.heap.get? b = some o → s'.heap.get? b = some o) (hg : s'.gens = s.gens) (ho : s'.os = s.os) : SR C σ s' := by
  refine ⟨fun b o e => k _ _ ?_ (S.keep b o e), hg.trans S.gens, ho.trans S.os, fun a x e => ⟨ObjR.keep (S.objs a x e).1 (fun b o xs n q c d => k b o ?_ q) (fun o q => k _ _ ?_ q), (S.objs a x e).2⟩⟩
  · rintro rfl; rw [h0] at e; cases e
  · rintro rfl; exact ht o xs n q d
  · rintro rfl; rw [hL] at e; cases e

/-- an object of σ is changed at its address -/
theorem SR.set {C : Cx} {σ : AH} {s s' : Shared} {a : Addr} {x y : AObj} (S : SR C σ s) (e : σ a = some x) (k : ∀ b o, b ≠ a → s.heap.get? b = some o → s'.heap.get? b = some o) (hy : TupKeep s.heap s'.heap → ObjR C.w s'.heap a y) (hg : s'.gens = s.gens) (ho : s'.os = s.os) :
    SR C (upd σ a y) s' ∧ Step σ s (upd σ a y) s' := by
  have hn : ∀ o, s.heap.get? a = some o → NoTup o := fun o q => by
    obtain ⟨o', ho', hc⟩ := ObjR.ex (S.objs a x e).1
    rw [q] at ho'; cases ho'; exact hc
  have tk : TupKeep s.heap s'.heap := fun b o xs n q c d => k b o (by rintro rfl; exact hn o q xs n c d) q
  refine ⟨⟨fun b o q => k _ _ (by rintro rfl; have := (S.objs _ x e).2.1; rw [q] at this; cases this) (S.keep b o q), hg.trans S.gens, ho.trans S.os, fun b z q => ?_⟩, ⟨fun b o q qn => k b o (by rintro rfl; rw [e] at qn; cases qn) q, fun b q => ?_, fun b q => ?_⟩⟩
  · by_cases hb : b = a
    · subst hb
      rw [upd_same] at q; cases q
      exact ⟨hy tk, (S.objs _ x e).2⟩
    · rw [upd_other hb] at q
      exact ⟨ObjR.keep (S.objs b z q).1 tk (fun o r => k _ _ hb r), (S.objs b z q).2⟩
  · by_cases hb : b = a
    · subst hb; exact .inl (by rw [e]; exact Option.some_ne_none _)
    · rw [upd_other hb] at q; exact .inl q
  · by_cases hb : b = a
    · subst hb; rw [upd_same]; exact Option.some_ne_none _
    · rw [upd_other hb]; exact q
theorem Step.ex {C : Cx} {σ σ' : AH} {s s' : Shared} (S' : SR C σ' s') (x : Step σ s σ' s') {b : Addr} {o : Obj} (e : s.heap.get? b = some o) : ∃ o', s'.heap.get? b = some o' := by
  cases h : σ b with
  | none => exact ⟨o, x.keep b o e h⟩
  | some z =>
    cases h' : σ' b with
    | none => exact absurd h' (x.mono b (by rw [h]; exact Option.some_ne_none _))
    | some z' => obtain ⟨o', ho, _⟩ := ObjR.ex (S'.objs b z' h').1; exact ⟨o', ho⟩

theorem SR.none_of_size {C : Cx} {σ : AH} {s : Shared} (S : SR C σ s) {a : Addr} (h : s.heap.get? a = none) : σ a = none ∧ C.h₀.get? a = none := by
  constructor
  · cases e : σ a with
    | none => rfl
    | some x => obtain ⟨o, ho, _⟩ := ObjR.ex (S.objs a x e).1; rw [h] at ho; cases ho
  · cases e : C.h₀.get? a with
    | none => rfl
    | some o => rw [S.keep a o e] at h; cases h
theorem get_size (h : Heap) : h.get? h.objs.size = none := by
  cases e : h.get? h.objs.size with
  | none => rfl
  | some o => exact absurd (Heap.lt_size e) (Nat.lt_irrefl _)
theorem SR.big {C : Cx} (ok : C.Ok) {σ : AH} {s : Shared} (S : SR C σ s) : 3 < s.heap.objs.size := by
  have h := ok.g.keeps S.keep
  exact h.lt
noncomputable def Room (n : Nat) (A : Around) : Prop := A.handled = none ∧ A.depth + 2 * n ≤ 900 ∧ A.units + 20 * n + 200 ≤ 9000
theorem Room.mono {n k : Nat} {A : Around} (R : Room n A) (h : k ≤ n) : Room k A := ⟨R.1, by have := R.2.1; omega, by have := R.2.2; omega⟩
theorem Room.units {n : Nat} {A : Around} (R : Room n A) : A.units + 64 < cLine := by have := R.2.2; have e : cLine = 9900 := rfl; omega
theorem Room.depth {n : Nat} {A : Around} (R : Room n A) : A.depth < recursionLimit := by have := R.2.1; have e : recursionLimit = 1000 := rfl; omega
theorem Room.deeper {n : Nat} {A : Around} (R : Room (n + 1) A) (env : Env) : Room n (A.deeper env) :=
  ⟨R.1, by show A.depth + 1 + 2 * n ≤ 900; have := R.2.1; omega, by show A.units + 3 + 20 * n + 200 ≤ 9000; have := R.2.2; omega⟩
theorem Room.in1 {n : Nat} {A : Around} (R : Room (n + 1) A) : Room n A.in1 :=
  ⟨R.1, by show A.depth + 2 * n ≤ 900; have := R.2.1; omega, by show A.units + 1 + 20 * n + 200 ≤ 9000; have := R.2.2; omega⟩

noncomputable abbrev Vars := List (Str × V)

structure EnvOk (env : Env) : Prop where
  kind : env.scope.kind = .function
  glob : env.globals = mainGlobals
  blt : env.builtins = builtinsNs

noncomputable def VarAt (env : Env) (h : Heap) (x : Str) (v : V) : Prop :=
  (x == ("__debug__" : Str)) = false ∧
  ((env.kindOf x = some .local ∧ ∃ mm y, h.Ns env.locals mm ∧ mm x = some y ∧ VR h v y) ∨
   (env.kindOf x = some .cell ∧ ∃ c y, env.cells.lookup x = some c ∧ h.IsCell c (some y) ∧ VR h v y) ∨
   (env.kindOf x = some .free ∧ (x == ("__classdict__" : Str)) = false ∧ ∃ c y, env.cells.lookup x = some c ∧ h.IsCell c (some y) ∧ VR h v y))

structure FrR (C : Cx) (env : Env) (m : Vars) (σ : AH) (s : Shared) : Prop where
  ok : EnvOk env
  vars : ∀ x v, m.lookup x = some v → VarAt env s.heap x v
  ns : ∃ mm, s.heap.Ns env.locals mm
  new : C.h₀.get? env.locals = none
  off : σ env.locals = none
  cells : ∀ x c, env.cells.lookup x = some c → (∃ ov, s.heap.IsCell c ov) ∧ C.h₀.get? c = none ∧ σ c = none
  apart : ∀ x y c, env.cells.lookup x = some c → env.cells.lookup y = some c → x = y

theorem VarAt.keep {env : Env} {h h' : Heap} {x : Str} {v : V} (a : VarAt env h x v) (tk : TupKeep h h') (kl : ∀ o, h.get? env.locals = some o → h'.get? env.locals = some o)
    (kc : ∀ x c o, env.cells.lookup x = some c → h.get? c = some o → h'.get? c = some o) : VarAt env h' x v := by
  refine ⟨a.1, ?_⟩
  rcases a.2 with ⟨k, mm, y, ⟨o, es, ep, ho, q⟩, e, r⟩ | ⟨k, c, y, hc, ⟨o, ho, q⟩, r⟩ | ⟨k, k2, c, y, hc, ⟨o, ho, q⟩, r⟩
  · exact .inl ⟨k, mm, y, ⟨o, es, ep, kl _ ho, q⟩, e, r.keep tk⟩
  · exact .inr (.inl ⟨k, c, y, hc, ⟨o, kc _ _ _ hc ho, q⟩, r.keep tk⟩)
  · exact .inr (.inr ⟨k, k2, c, y, hc, ⟨o, kc _ _ _ hc ho, q⟩, r.keep tk⟩)

theorem FrR.step {C : Cx} {env : Env} {m : Vars} {σ σ' : AH} {s s' : Shared} (F : FrR C env m σ s) (S : SR C σ s) (x : Step σ s σ' s') : FrR C env m σ' s' := by
  have kl : ∀ o, s.heap.get? env.locals = some o → s'.heap.get? env.locals = some o := fun o e => x.keep _ _ e F.off
  have kc : ∀ y c o, env.cells.lookup y = some c → s.heap.get? c = some o → s'.heap.get? c = some o := fun y c o e q => x.keep _ _ q (F.cells y c e).2.2
  refine ⟨F.ok, fun y v e => (F.vars y v e).keep (x.tup S) kl kc, ?_, F.new, ?_, fun y c e => ?_, F.apart⟩
  · obtain ⟨mm, o, es, ep, ho, q⟩ := F.ns
    exact ⟨mm, o, es, ep, kl _ ho, q⟩
  · obtain ⟨mm, o, es, ep, ho, q⟩ := F.ns
    exact x.off ho F.off
  · obtain ⟨⟨ov, o, ho, q⟩, h1, h2⟩ := F.cells y c e
    exact ⟨⟨ov, o, kc y c o e ho, q⟩, h1, x.off ho h2⟩

noncomputable def Sub (m m' : Vars) : Prop := ∀ x v, m.lookup x = some v → m'.lookup x = some v
theorem Sub.refl (m : Vars) : Sub m m := fun _ _ e => e
theorem Sub.nil (m : Vars) : Sub [] m := fun _ _ e => by cases e
theorem Sub.cons {x : Str} {v : V} {m m' : Vars} (h : m'.lookup x = some v) (r : Sub m m') : Sub ((x, v) :: m) m' := fun y u e => by
  rw [List.lookup_cons] at e
  cases hb : y == x with
  | true => rw [hb] at e; cases e; rw [beq_iff_eq.mp hb]; exact h
  | false => rw [hb] at e; exact r y u e
theorem Sub.under {x : Str} {v : V} {m m' : Vars} (r : Sub m m') : Sub ((x, v) :: m) ((x, v) :: m') := fun y u e => by
  rw [List.lookup_cons] at e ⊢
  cases hb : y == x with
  | true => rw [hb] at e; exact e
  | false => rw [hb] at e; exact r y u e
theorem lk_head {x : Str} {v : V} {m : Vars} : List.lookup x ((x, v) :: m) = some v := by rw [List.lookup_cons, beq_self_eq_true]
theorem lk_tail {x y : Str} {u : V} {m : Vars} {r : Option V} (h : (x == y) = false) (e : List.lookup x m = r) : List.lookup x ((y, u) :: m) = r := by rw [List.lookup_cons, h]; exact e
theorem FrR.sub {C : Cx} {env : Env} {m m' : Vars} {σ : AH} {s : Shared} (F : FrR C env m σ s) (h : Sub m' m) : FrR C env m' σ s := ⟨F.ok, fun x v e => F.vars x v (h x v e), F.ns, F.new, F.off, F.cells, F.apart⟩

section
variable {α β : Type}
/-- the tree t ends (without a raise) in a value that stands for some v with P v σ' -/
noncomputable def W (C : Cx) (n : Nat) (F : AH → Shared → Prop) (rel : Heap → α → β → Prop) (t : Sem β) (σ : AH) (P : α → AH → Prop) : Prop :=
  ∀ A s, Room n A → SR C σ s → F σ s → ∀ (E : Value → Shared → Prop) (Q : β → Shared → Prop),
    (∀ v x σ' s', P v σ' → SR C σ' s' → Step σ s σ' s' → rel s'.heap v x → Q x s') → wpAny C.M A t Q E s
theorem W.mono {C : Cx} {n : Nat} {F : AH → Shared → Prop} {rel : Heap → α → β → Prop} {t : Sem β} {σ : AH} {P P' : α → AH → Prop} (h : W C n F rel t σ P) (k : ∀ v σ', P v σ' → P' v σ') : W C n F rel t σ P' :=
  fun A s R S hF E Q hQ => h A s R S hF E Q fun v x σ' s' p => hQ v x σ' s' (k v σ' p)
end

noncomputable abbrev Ev (C : Cx) (n : Nat) (env : Env) (m : Vars) (e : Expr) (σ : AH) (P : V → AH → Prop) : Prop := W C n (FrR C env m) VR (eval e env) σ P
noncomputable abbrev Tst (C : Cx) (n : Nat) (env : Env) (m : Vars) (e : Expr) (σ : AH) (P : Bool → AH → Prop) : Prop := W C n (FrR C env m) (fun _ (a b : Bool) => a = b) (isTrue e env (eval e env)) σ P
noncomputable abbrev Evs (C : Cx) (n : Nat) (env : Env) (m : Vars) (pos : Pos) (es : List Expr) (σ : AH) (P : List V → AH → Prop) : Prop := W C n (FrR C env m) VRs (spliced (backTo pos (starEach es env))) σ P

/-- an operation on two values -/
noncomputable def Op2 (C : Cx) (n : Nat) (t : Value → Value → Sem Value) (v u : V) (σ : AH) (P : V → AH → Prop) : Prop :=
  ∀ x y, W C n (fun _ s => VR s.heap v x ∧ VR s.heap u y) VR (t x y) σ P
noncomputable def Op1 (C : Cx) (n : Nat) {α β : Type} (rel : Heap → α → β → Prop) (t : Value → Sem β) (v : V) (σ : AH) (P : α → AH → Prop) : Prop :=
  ∀ x, W C n (fun _ s => VR s.heap v x) rel (t x) σ P

theorem VR.intT {h : Heap} {i : Int} {x : Value} (r : VR h (.int i) x) : ∃ t, x = .int i t := by
  obtain ⟨_, as, rd⟩ := r
  cases rd with | int i t => exact ⟨t, rfl⟩
theorem VR.strT {h : Heap} {i : Str} {x : Value} (r : VR h (.str i) x) : ∃ t, x = .str i t := by
  obtain ⟨_, as, rd⟩ := r
  cases rd with | str i t => exact ⟨t, rfl⟩
theorem VR.boolT {h : Heap} {b : Bool} {x : Value} (r : VR h (.bool b) x) : x = .bool b := by
  obtain ⟨_, as, rd⟩ := r
  cases rd with | bool b => rfl
theorem VR.mkInt {h : Heap} (i : Int) (t : Tok) : VR h (.int i) (.int i t) := ⟨by simp [okD, fz, PyData.depth], _, .int i t⟩
theorem VR.mkBool {h : Heap} (b : Bool) : VR h (.bool b) (.bool b) := ⟨by simp [okD, fz, PyData.depth], _, .bool b⟩
theorem VR.mkStr {h : Heap} {x : Str} (ok : PyData.strOk x = true) (t : Tok) : VR h (.str x) (.str x t) := ⟨by simp [okD, fz, PyData.depth, ok], _, .str x t⟩
theorem VR.mkNone {h : Heap} : VR h .none .none := ⟨by simp [okD, fz, PyData.depth], _, .none⟩
theorem VR.tupT {h : Heap} {ds : List PyData} {x : Value} (r : VR h (.tup ds) x) : ∃ a xs, x = .ref a ∧ IsTup h a xs ∧ VRs h (dats ds) xs.toList := by
  obtain ⟨ok, as, rd⟩ := r
  cases rd with
  | tuple h1 h2 h3 h4 =>
    refine ⟨_, _, rfl, ⟨_, h1, h2, _, h3⟩, VRs.of_readsAll h4 fun d hd => ?_⟩
    simp only [okD, Bool.and_eq_true, decide_eq_true_eq] at ok ⊢
    have o1 : fzs ds = true := by simpa [fz] using ok.1
    have o2 : PyData.depthAll ds + 1 ≤ 8 := by have := ok.2; rwa [PyData.depth] at this
    have : ∀ (ds : List PyData), fzs ds = true → ∀ d ∈ ds, fz d = true := by
      intro ds
      induction ds with
      | nil => intro _ d hd; cases hd
      | cons e es ih =>
        intro hf d hd
        simp only [fzs, Bool.and_eq_true] at hf
        rcases List.mem_cons.mp hd with rfl | hd
        · exact hf.1
        · exact ih hf.2 d hd
    refine ⟨this ds o1 d hd, ?_⟩
    have : ∀ (ds : List PyData), ∀ d ∈ ds, d.depth ≤ PyData.depthAll ds := by
      intro ds
      induction ds with
      | nil => intro d hd; cases hd
      | cons e es ih =>
        intro d hd
        simp only [PyData.depthAll]
        rcases List.mem_cons.mp hd with rfl | hd
        · omega
        · have := ih d hd; omega
    have h1 := this ds d hd
    omega

section
variable {C : Cx} {n : Nat} {env : Env} {m : Vars} {σ : AH} {P : V → AH → Prop} {PB : Bool → AH → Prop}

/-- the tree has come back with the state as it was but for the count of tokens -/
theorem tokq {s : Shared} {rel : Heap → V → Value → Prop} {Q : Value → Shared → Prop} {v : V} {x : Value} {t : Nat} (S : SR C σ s) (hQ : ∀ v x σ' s', P v σ' → SR C σ' s' → Step σ s σ' s' → rel s'.heap v x → Q x s') (p : P v σ) (r : rel s.heap v x) : Q x { s with toks := t } :=
  hQ v x σ _ p (S.toks t) (Step.grow fun _ _ e => e) r

theorem E_var {x : Str} {pos : Pos} {v : V} (hx : m.lookup x = some v) (h : P v σ) : Ev C n env m (.Name x pos) σ P := by
  intro A s R S F E Q hQ
  obtain ⟨hd, hk⟩ := F.vars x v hx
  refine wpAny_Name ?_ hd
  rcases hk with ⟨k, mm, y, hn, e, r⟩ | ⟨k, c, y, hc, hcell, r⟩ | ⟨k, k2, c, y, hc, hcell, r⟩
  · exact wpAny_loadName_local F.ok.kind k hn e (hQ v y σ s h S (Step.refl _ _) r)
  · exact wpAny_loadName_cell F.ok.kind k hc hcell (hQ v y σ s h S (Step.refl _ _) r)
  · exact wpAny_loadName_free F.ok.kind k hc hcell (hQ v y σ s h S (Step.refl _ _) r) k2

theorem E_int {i : Int} {k : Nat} {pos : Pos} (h : P (.int i) σ) : Ev C n env m (.Constant (.int i) k pos) σ P := fun A s R S F E Q hQ =>
  wpAny_Constant_int (tokq S hQ h (VR.mkInt i _))
theorem E_str {x : Str} {k : Nat} {pos : Pos} (h : P (.str x) σ) (ok : PyData.strOk x = true := by decide +kernel) : Ev C n env m (.Constant (.str x) k pos) σ P := fun A s R S F E Q hQ =>
  Calls.Constant_str (tokq S hQ h (VR.mkStr ok _))
theorem E_bool {b : Bool} {k : Nat} {pos : Pos} (h : P (.bool b) σ) : Ev C n env m (.Constant (.bool b) k pos) σ P := fun A s R S F E Q hQ =>
  wpAny_Constant_bool (hQ _ _ σ s h S (Step.refl _ _) (VR.mkBool b))

theorem E_bin {l r : Expr} {op : Operator} {pos : Pos} (h : Ev C n env m l σ (fun v σ1 => Ev C n env m r σ1 (fun u σ2 => Op2 C n (binaryOp op) v u σ2 P))) : Ev C n env m (.BinOp l op r pos) σ P := by
  intro A s R S F E Q hQ
  refine wpAny_BinOp (h A s R S F E _ ?_)
  intro v x σ1 s1 h2 S1 T1 V1
  refine h2 A s1 R S1 (F.step S T1) E _ ?_
  intro u y σ2 s2 h3 S2 T2 V2
  refine h3 x y A s2 R S2 ⟨V1.keep (T2.tup S1), V2⟩ E _ ?_
  intro w z σ3 s3 p S3 T3 V3
  exact hQ w z σ3 s3 p S3 ((T1.trans T2).trans T3) V3

theorem E_cmp {l r : Expr} {op : CmpOp} {pos : Pos} (h : Ev C n env m l σ (fun v σ1 => Ev C n env m r σ1 (fun u σ2 => Op2 C n (compareOp op) v u σ2 P))) (hm : isSet r = false := by rfl) : Ev C n env m (.Compare l [op] [r] pos) σ P := by
  intro A s R S F E Q hQ
  refine wpAny_Compare1 (h A s R S F E _ ?_) (mark_of hm)
  intro v x σ1 s1 h2 S1 T1 V1
  refine h2 A s1 R S1 (F.step S T1) E _ ?_
  intro u y σ2 s2 h3 S2 T2 V2
  refine h3 x y A s2 R S2 ⟨V1.keep (T2.tup S1), V2⟩ E _ ?_
  intro w z σ3 s3 p S3 T3 V3
  exact hQ w z σ3 s3 p S3 ((T1.trans T2).trans T3) V3

theorem T_cmp {l r : Expr} {op : CmpOp} {pos : Pos} (h : Ev C n env m l σ (fun v σ1 => Ev C n env m r σ1 (fun u σ2 => Op2 C n (compareOp op) v u σ2 (fun w σ3 => ∃ b, w = .bool b ∧ PB b σ3)))) (hm : isSet r = false := by rfl) : Tst C n env m (.Compare l [op] [r] pos) σ PB := by
  intro A s R S F E Q hQ
  refine wpAny_isTrue_Compare1 (h A s R S F E _ ?_) (mark_of hm)
  intro v x σ1 s1 h2 S1 T1 V1
  refine h2 A s1 R S1 (F.step S T1) E _ ?_
  intro u y σ2 s2 h3 S2 T2 V2
  refine h3 x y A s2 R S2 ⟨V1.keep (T2.tup S1), V2⟩ E _ ?_
  rintro w z σ3 s3 ⟨b, rfl, p⟩ S3 T3 V3
  obtain rfl := V3.boolT
  exact wpAny_truthy_bool (hQ b b σ3 s3 p S3 ((T1.trans T2).trans T3) rfl)

-- the ints' operations
theorem op_add {a b : Int} (h : P (.int (a + b)) σ) : Op2 C n (binaryOp .Add) (.int a) (.int b) σ P := fun x y A s R S F E Q hQ => by
  obtain ⟨t, rfl⟩ := F.1.intT; obtain ⟨u, rfl⟩ := F.2.intT
  exact PyProof.Rows.add_int (tokq S hQ h (VR.mkInt _ _))
theorem op_sub {a b : Int} (h : P (.int (a - b)) σ) : Op2 C n (binaryOp .Sub) (.int a) (.int b) σ P := fun x y A s R S F E Q hQ => by
  obtain ⟨t, rfl⟩ := F.1.intT; obtain ⟨u, rfl⟩ := F.2.intT
  exact PyProof.Rows.sub_int (tokq S hQ h (VR.mkInt _ _))
theorem op_mul {a b : Int} (h : P (.int (a * b)) σ) (hm : IntMulOk a b := by exact IntMulOk.of_left (intBits_le_64 (by decide) (by decide))) : Op2 C n (binaryOp .Mult) (.int a) (.int b) σ P := fun x y A s R S F E Q hQ => by
  obtain ⟨t, rfl⟩ := F.1.intT; obtain ⟨u, rfl⟩ := F.2.intT
  exact PyProof.Rows.mul_int (tokq S hQ h (VR.mkInt _ _)) hm
theorem op_mod {a b : Int} (hb : b ≠ 0) (h : P (.int (a.fmod b)) σ) : Op2 C n (binaryOp .Mod) (.int a) (.int b) σ P := fun x y A s R S F E Q hQ => by
  obtain ⟨t, rfl⟩ := F.1.intT; obtain ⟨u, rfl⟩ := F.2.intT
  exact PyProof.Rows.mod_int' hb (tokq S hQ h (VR.mkInt _ _))
theorem op_div {a b : Int} (hb : b ≠ 0) (h : P (.int (a.fdiv b)) σ) (hp : Builtin.divisionGoesByPylong a b = false := by exact PyProof.noPylong_of_log2 (by decide +kernel)) : Op2 C n (binaryOp .FloorDiv) (.int a) (.int b) σ P := fun x y A s R S F E Q hQ => by
  obtain ⟨t, rfl⟩ := F.1.intT; obtain ⟨u, rfl⟩ := F.2.intT
  exact PyProof.Rows.floordiv_int hb (tokq S hQ h (VR.mkInt _ _)) (.inl hp)
theorem op_pow {a b : Int} (h : P (.int (a ^ b.toNat)) σ) (h0 : 0 ≤ b := by decide) (h1 : b ≤ 1000000 := by decide) (h2 : a.natAbs < 2 ^ 64 := by decide) : Op2 C n (binaryOp .Pow) (.int a) (.int b) σ P := fun x y A s R S F E Q hQ => by
  obtain ⟨t, rfl⟩ := F.1.intT; obtain ⟨u, rfl⟩ := F.2.intT
  exact PyProof.Rows.pow_int_small h0 h1 h2 (tokq S hQ h (VR.mkInt _ _))
theorem op_lt {a b : Int} (h : P (.bool (decide (a < b))) σ) : Op2 C n (compareOp .Lt) (.int a) (.int b) σ P := fun x y A s R S F E Q hQ => by
  obtain ⟨t, rfl⟩ := F.1.intT; obtain ⟨u, rfl⟩ := F.2.intT
  exact PyProof.Rows.lt_int (hQ _ _ σ s h S (Step.refl _ _) (VR.mkBool _))
theorem op_gt {a b : Int} (h : P (.bool (decide (b < a))) σ) : Op2 C n (compareOp .Gt) (.int a) (.int b) σ P := fun x y A s R S F E Q hQ => by
  obtain ⟨t, rfl⟩ := F.1.intT; obtain ⟨u, rfl⟩ := F.2.intT
  exact PyProof.Rows.gt_int (hQ _ _ σ s h S (Step.refl _ _) (VR.mkBool _))
theorem op_le {a b : Int} (h : P (.bool (decide (a ≤ b))) σ) : Op2 C n (compareOp .LtE) (.int a) (.int b) σ P := fun x y A s R S F E Q hQ => by
  obtain ⟨t, rfl⟩ := F.1.intT; obtain ⟨u, rfl⟩ := F.2.intT
  exact PyProof.Rows.le_int (hQ _ _ σ s h S (Step.refl _ _) (VR.mkBool _))
theorem op_ge {a b : Int} (h : P (.bool (decide (b ≤ a))) σ) : Op2 C n (compareOp .GtE) (.int a) (.int b) σ P := fun x y A s R S F E Q hQ => by
  obtain ⟨t, rfl⟩ := F.1.intT; obtain ⟨u, rfl⟩ := F.2.intT
  exact PyProof.Rows.ge_int (hQ _ _ σ s h S (Step.refl _ _) (VR.mkBool _))

-- data: == and !=
theorem okD_shaped {d : PyData} (h : okD d = true) : SeqAt.shaped d = true := by
  simp only [okD, Bool.and_eq_true, decide_eq_true_eq] at h
  unfold SeqAt.shaped
  rw [fz_canLay d h.1, Bool.true_and]
  exact decide_eq_true (by omega)
open Classical in
theorem op_eq {d e : PyData} (hd : nb d = true) (he : nb e = true) (h : P (.bool (decide (d = e))) σ) : Op2 C n (compareOp .Eq) (.dat d) (.dat e) σ P := fun x y A s R S F E Q hQ => by
  obtain ⟨⟨k1, as, r1⟩, ⟨k2, bs, r2⟩⟩ := F
  refine PyProof.Rows.eq_dataH r1 r2 (okD_shaped k1) (okD_shaped k2) R.units ?_
  have q : PyData.eqv d e = decide (d = e) := by
    by_cases hh : d = e
    · rw [decide_eq_true hh]; exact (eqv_iff d e hd he).mpr hh
    · rw [decide_eq_false hh]; exact Bool.eq_false_iff.mpr fun x => hh ((eqv_iff d e hd he).mp x)
  rw [q]
  exact hQ _ _ σ s h S (Step.refl _ _) (VR.mkBool _)
open Classical in
theorem op_ne {d e : PyData} (hd : nb d = true) (he : nb e = true) (h : P (.bool (!decide (d = e))) σ) : Op2 C n (compareOp .NotEq) (.dat d) (.dat e) σ P := fun x y A s R S F E Q hQ => by
  obtain ⟨⟨k1, as, r1⟩, ⟨k2, bs, r2⟩⟩ := F
  refine PyProof.Rows.ne_dataH r1 r2 (okD_shaped k1) (okD_shaped k2) R.units ?_
  have q : PyData.eqv d e = decide (d = e) := by
    by_cases hh : d = e
    · rw [decide_eq_true hh]; exact (eqv_iff d e hd he).mpr hh
    · rw [decide_eq_false hh]; exact Bool.eq_false_iff.mpr fun x => hh ((eqv_iff d e hd he).mp x)
  rw [q]
  exact hQ _ _ σ s h S (Step.refl _ _) (VR.mkBool _)
end
theorem kind_of {env : Env} {sc : Scope} {x : Str} {k : Option NameKind} (h : env.scope = sc) (e : sc.names.lookup x = k) : env.kindOf x = k := by subst h; exact e

section
variable {C : Cx} {n : Nat} {env : Env} {m : Vars} {σ : AH} {P : V → AH → Prop} {PB : Bool → AH → Prop}

theorem SR.glob {C : Cx} (ok : C.Ok) {σ : AH} {s : Shared} (S : SR C σ s) : s.heap.Ns mainGlobals C.mg := ok.g.keeps S.keep

theorem wp_glob {A : Around} {s : Shared} {E : Value → Shared → Prop} {Q : Value → Shared → Prop} {x : Str} {pos : Pos} {val : Value} (ok : C.Ok) (S : SR C σ s) (F : FrR C env m σ s) (hk : env.kindOf x = some .globalImplicit) (hd : (x == ("__debug__" : Str)) = false) (e : nsIn C.K mainGlobals x = some (some val)) (h : Q val s) : wpAny C.M A (eval (.Name x pos) env) Q E s := by
  refine Calls.Name_function_global F.ok.kind hk (Calls.loadGlobal_global (mg := C.mg) ?_ (mg_of ok.kin ok.g e) h) hd
  rw [F.ok.glob]; exact S.glob ok
theorem wp_blt {A : Around} {s : Shared} {E : Value → Shared → Prop} {Q : Value → Shared → Prop} {x : Str} {pos : Pos} {val : Value} (ok : C.Ok) (S : SR C σ s) (F : FrR C env m σ s) (hk : env.kindOf x = some .globalImplicit) (hd : (x == ("__debug__" : Str)) = false) (e : nsIn C.K mainGlobals x = some none) (hn : x ≠ "__name__") (hv : bootBuiltins x = some val) (h : Q val s) : wpAny C.M A (eval (.Name x pos) env) Q E s := by
  refine Calls.Name_function_global F.ok.kind hk (Calls.loadGlobal_builtin (mg := C.mg) (mb := C.mb) ?_ (mg_none_of ok.kin ok.g e) ?_ ((ok.builtins x hn).trans hv) h) hd
  · rw [F.ok.glob]; exact S.glob ok
  · rw [F.ok.blt]; exact ok.b.keeps S.keep

/-- a constant of the text's top -/
structure GlobV (C : Cx) (x : Str) (v : V) : Prop where
  ex : ∃ val, nsIn C.K mainGlobals x = some (some val) ∧ VR C.h₀ v val
  nd : (x == ("__debug__" : Str)) = false

theorem E_glob {x : Str} {pos : Pos} {v : V} (ok : C.Ok) (g : GlobV C x v) (hk : env.kindOf x = some .globalImplicit) (h : P v σ) : Ev C n env m (.Name x pos) σ P := by
  intro A s R S F E Q hQ
  obtain ⟨val, e, r⟩ := g.ex
  exact wp_glob ok S F hk g.nd e (hQ v val σ s h S (Step.refl _ _) (r.keep (TupKeep.of_keep S.keep)))

-- tests
theorem T_of {e : Expr} (h : Ev C n env m e σ (fun v σ1 => Op1 C n (fun _ (a b : Bool) => a = b) truthy v σ1 PB)) (he : isTest e = false := by rfl) : Tst C n env m e σ PB := by
  intro A s R S F E Q hQ
  refine isTrue_plain (h A s R S F E _ ?_) (test_of he _)
  intro v x σ1 s1 h2 S1 T1 V1
  refine h2 x A s1 R S1 V1 E _ ?_
  intro b c σ2 s2 p S2 T2 e2
  exact hQ b c σ2 s2 p S2 (T1.trans T2) e2
theorem truthy_bool {b : Bool} (h : PB b σ) : Op1 C n (fun _ (a b : Bool) => a = b) truthy (.bool b) σ PB := fun x A s R S F E Q hQ => by
  obtain rfl := VR.boolT F
  exact wpAny_truthy_bool (hQ b b σ s h S (Step.refl _ _) rfl)
theorem T_and {x y : Expr} {pos : Pos} (h : Tst C n env m x σ (fun b σ1 => (b = true → Tst C n env m y σ1 PB) ∧ (b = false → PB false σ1))) : Tst C n env m (.BoolOp .And [x, y] pos) σ PB := by
  intro A s R S F E Q hQ
  refine isTrue_and (h A s R S F E _ ?_)
  rintro b c σ1 s1 ⟨ht, hf⟩ S1 T1 rfl
  cases b with
  | false => exact hQ false false σ1 s1 (hf rfl) S1 T1 rfl
  | true =>
    simp only [if_true]
    refine isTrue_and (ht rfl A s1 R S1 (F.step S T1) E _ ?_)
    rintro b c σ2 s2 p S2 T2 rfl
    cases b with
    | false => exact hQ false false σ2 s2 p S2 (T1.trans T2) rfl
    | true => exact isTrue_and_nil (hQ true true σ2 s2 p S2 (T1.trans T2) rfl)
theorem T_and3 {x y z : Expr} {pos : Pos} (h : Tst C n env m x σ (fun b σ1 => (b = true → Tst C n env m y σ1 (fun b2 σ2 => (b2 = true → Tst C n env m z σ2 PB) ∧ (b2 = false → PB false σ2))) ∧ (b = false → PB false σ1))) : Tst C n env m (.BoolOp .And [x, y, z] pos) σ PB := by
  intro A s R S F E Q hQ
  refine isTrue_and (h A s R S F E _ ?_)
  rintro b c σ1 s1 ⟨ht, hf⟩ S1 T1 rfl
  cases b with
  | false => exact hQ false false σ1 s1 (hf rfl) S1 T1 rfl
  | true =>
    simp only [if_true]
    refine isTrue_and (ht rfl A s1 R S1 (F.step S T1) E _ ?_)
    rintro b c σ2 s2 ⟨ht2, hf2⟩ S2 T2 rfl
    cases b with
    | false => exact hQ false false σ2 s2 (hf2 rfl) S2 (T1.trans T2) rfl
    | true =>
      simp only [if_true]
      refine isTrue_and (ht2 rfl A s2 R S2 (F.step S (T1.trans T2)) E _ ?_)
      rintro b c σ3 s3 p S3 T3 rfl
      cases b with
      | false => exact hQ false false σ3 s3 p S3 ((T1.trans T2).trans T3) rfl
      | true => exact isTrue_and_nil (hQ true true σ3 s3 p S3 ((T1.trans T2).trans T3) rfl)
theorem isTrue_or_nil' {A : Around} {s : Shared} {E : Value → Shared → Prop} {pos : Pos} {whole : Sem Value} {Q : Bool → Shared → Prop} (h : Q false s) : wpAny C.M A (isTrue (.BoolOp .Or [] pos) env whole) Q E s := wpAny_pure (a := false) h
theorem T_or {x y : Expr} {pos : Pos} (h : Tst C n env m x σ (fun b σ1 => (b = true → PB true σ1) ∧ (b = false → Tst C n env m y σ1 PB))) : Tst C n env m (.BoolOp .Or [x, y] pos) σ PB := by
  intro A s R S F E Q hQ
  refine isTrue_or (h A s R S F E _ ?_)
  rintro b c σ1 s1 ⟨ht, hf⟩ S1 T1 rfl
  cases b with
  | true => exact hQ true true σ1 s1 (ht rfl) S1 T1 rfl
  | false =>
    simp only [Bool.false_eq_true, if_false]
    refine isTrue_or (hf rfl A s1 R S1 (F.step S T1) E _ ?_)
    rintro b c σ2 s2 p S2 T2 rfl
    cases b with
    | true => exact hQ true true σ2 s2 p S2 (T1.trans T2) rfl
    | false => exact isTrue_or_nil' (hQ false false σ2 s2 p S2 (T1.trans T2) rfl)
theorem T_not {x : Expr} {pos : Pos} (h : Tst C n env m x σ (fun b σ1 => PB (!b) σ1)) : Tst C n env m (.UnaryOp .Not x pos) σ PB := by
  intro A s R S F E Q hQ
  refine isTrue_not (h A s R S F E _ ?_)
  rintro b c σ1 s1 p S1 T1 rfl
  exact hQ _ _ σ1 s1 p S1 T1 rfl
theorem E_neg {x : Expr} {pos : Pos} (h : Ev C n env m x σ (fun v σ1 => ∃ i, v = .int i ∧ P (.int (-i)) σ1)) : Ev C n env m (.UnaryOp .USub x pos) σ P := by
  intro A s R S F E Q hQ
  refine wpAny_UnaryOp (h A s R S F E _ ?_)
  rintro v x σ1 s1 ⟨i, rfl, p⟩ S1 T1 V1
  obtain ⟨t, rfl⟩ := V1.intT
  exact PyProof.Rows.neg_int (hQ _ _ σ1 _ p (S1.toks _) (T1.trans (Step.grow fun _ _ e => e)) (VR.mkInt _ _))
theorem E_ifexp {test body orelse : Expr} {pos : Pos} (h : Tst C n env m test σ (fun b σ1 => (b = true → Ev C n env m body σ1 P) ∧ (b = false → Ev C n env m orelse σ1 P))) : Ev C n env m (.IfExp test body orelse pos) σ P := by
  intro A s R S F E Q hQ
  refine wpAny_IfExp (h A s R S F E _ ?_)
  rintro b c σ1 s1 ⟨ht, hf⟩ S1 T1 rfl
  cases b with
  | true =>
    simp only [if_true]
    exact ht rfl A s1 R S1 (F.step S T1) E _ fun v x σ2 s2 p S2 T2 V2 => hQ v x σ2 s2 p S2 (T1.trans T2) V2
  | false =>
    simp only [Bool.false_eq_true, if_false]
    exact hf rfl A s1 R S1 (F.step S T1) E _ fun v x σ2 s2 p S2 T2 V2 => hQ v x σ2 s2 p S2 (T1.trans T2) V2

-- arguments
theorem A_nil {pos : Pos} {P : List V → AH → Prop} (h : P [] σ) : Evs C n env m pos [] σ P := fun A s R S F E Q hQ =>
  spliced_none (hQ [] [] σ s h S (Step.refl _ _) .nil)
theorem A_cons {pos : Pos} {e : Expr} {rest : List Expr} {P : List V → AH → Prop} (h : Ev C n env m e σ (fun v σ1 => Evs C n env m pos rest σ1 (fun vs σ2 => P (v :: vs) σ2))) (he : isStar e = false := by rfl) : Evs C n env m pos (e :: rest) σ P := by
  intro A s R S F E Q hQ
  refine spliced_more (h A s R S F E _ ?_) (star_cons he)
  intro v x σ1 s1 h2 S1 T1 V1
  refine h2 A s1 R S1 (F.step S T1) E _ ?_
  intro vs xs σ2 s2 p S2 T2 V2
  exact hQ _ _ σ2 s2 p S2 (T1.trans T2) (.cons (V1.keep (T2.tup S1)) V2)

-- a new tuple, a new list
theorem push_keep {h : Heap} (o : Obj) : ∀ b x, h.get? b = some x → (h.push o).get? b = some x := fun _ _ e => Heap.get?_push_of_some o e
theorem okD_tuple {ds : List PyData} (h : ∀ d ∈ ds, okD d = true) (hd : PyData.depthAll ds ≤ 7) : okD (.tuple ds) = true := by
  rw [okD, Bool.and_eq_true]
  refine ⟨by simpa [fz] using fzs_of h, decide_eq_true ?_⟩
  rw [PyData.depth]; omega
theorem E_tuple {elts : List Expr} {k : Nat} {pos : Pos} (h : Evs C n env m pos elts σ (fun vs σ1 => ∃ ds, vs = dats ds ∧ PyData.depthAll ds ≤ 7 ∧ ds.length ≤ 1000 ∧ P (.tup ds) σ1)) : Ev C n env m (.Tuple elts k pos) σ P := by
  intro A s R S F E Q hQ
  refine wpAny_Tuple (h A s R S F E _ ?_)
  rintro vs xs σ1 s1 ⟨ds, rfl, hd, hl, p⟩ S1 T1 V1
  have e1 := V1.length
  rw [List.length_map] at e1
  refine ⟨by rw [← e1, show sizeLine = 2 ^ 24 from rfl]; omega, ?_⟩
  have S2 : SR C σ1 { s1 with heap := s1.heap.push { cls := .type "tuple", data := .seq xs.toArray } } := S1.grow (push_keep _) rfl rfl
  refine hQ _ _ σ1 _ p S2 (T1.trans (Step.grow (push_keep _))) ⟨okD_tuple V1.okAll hd, ?_⟩
  obtain ⟨as, r⟩ := (V1.keep (TupKeep.of_keep (push_keep { cls := .type "tuple", data := .seq xs.toArray }))).reads
  exact ⟨as, .tuple (Heap.get?_push_size _ rfl) rfl rfl r⟩

/-- σ with a new object -/
theorem SR.alloc {s : Shared} (ok : C.Ok) (S : SR C σ s) {o : Obj} {x : AObj} (hf : o.isFreed = false) (hx : ObjR C.w (s.heap.push o) s.heap.objs.size x) :
    σ s.heap.objs.size = none ∧ SR C (upd σ s.heap.objs.size x) { s with heap := s.heap.push o } ∧ Step σ s (upd σ s.heap.objs.size x) { s with heap := s.heap.push o } := by
  obtain ⟨h1, h2⟩ := S.none_of_size (get_size s.heap)
  have S2 : SR C σ { s with heap := s.heap.push o } := S.grow (push_keep _) rfl rfl
  refine ⟨h1, ⟨S2.keep, S2.gens, S2.os, fun a y e => ?_⟩, ⟨fun b o' e _ => push_keep _ b o' e, fun b e => ?_, fun b e => ?_⟩⟩
  · by_cases ha : a = s.heap.objs.size
    · subst ha
      rw [upd_same] at e; cases e
      exact ⟨hx, h2, by have := S.big ok; intro q; rw [q] at this; exact absurd this (by decide)⟩
    · rw [upd_other ha] at e; exact S2.objs a y e
  · by_cases ha : b = s.heap.objs.size
    · subst ha; exact .inr (get_size _)
    · rw [upd_other ha] at e; exact .inl e
  · by_cases ha : b = s.heap.objs.size
    · subst ha; rw [upd_same]; exact Option.some_ne_none _
    · rw [upd_other ha]; exact e
theorem E_list {elts : List Expr} {pos : Pos} (ok : C.Ok) (h : Evs C n env m pos elts σ (fun vs σ1 => vs.length ≤ 1000 ∧ ∀ a, σ1 a = none → P (.obj a) (upd σ1 a (.list vs)))) : Ev C n env m (.List elts pos) σ P := by
  intro A s R S F E Q hQ
  refine wpAny_List (h A s R S F E _ ?_)
  rintro vs xs σ1 s1 ⟨hl, p⟩ S1 T1 V1
  have e1 := V1.length
  refine ⟨by rw [← e1, show sizeLine = 2 ^ 24 from rfl]; omega, ?_⟩
  have V2 := V1.keep (TupKeep.of_keep (push_keep (h := s1.heap) { cls := .type "list", data := .seq xs.toArray }))
  obtain ⟨h1, S2, T2⟩ := S1.alloc ok (o := { cls := .type "list", data := .seq xs.toArray }) (x := .list vs) rfl ⟨xs.toArray, 0, IsL.new _ _, by simpa using V2⟩
  exact hQ _ _ _ _ (p _ h1) S2 (T1.trans T2) rfl

theorem evalArgs_spl0 {M : Model} {A : Around} {E : Value → Shared → Prop} {s : Shared} {f : Value} {Q : Args → Shared → Prop} (h : wpAny M A (spliced []) (fun vs s' => Q ⟨vs, []⟩ s') E s) : wpAny M A (evalArgs f true [] []) Q E s := by
  unfold evalArgs
  show wpAny M A (spliced [] >>= _) Q E s
  refine wpAny_bind (wpAny_mono h (fun vs s' q => ?_) fun _ _ e => e)
  refine wpAny_bind (wpAny_pure ?_)
  refine wpAny_holding ?_
  exact wpAny_bind (wpAny_pure (wpAny_bind (wpAny_pure (wpAny_pure q))))

/-- a function of the text, called with values -/
noncomputable def Fn (C : Cx) (n : Nat) (fa : Addr) (vs : List V) (σ : AH) (P : V → AH → Prop) : Prop :=
  ∀ A s xs, Room n A → SR C σ s → VRs s.heap vs xs → ∀ (R : Result → Shared → Prop), (∀ v x σ' s', P v σ' → SR C σ' s' → Step σ s σ' s' → VR s'.heap v x → R (.ok (.ret x)) s') → codeAny C.M A (.call (.ref fa) ⟨xs, []⟩) R s
theorem Fn.mono {fa : Addr} {vs : List V} {P' : V → AH → Prop} (h : Fn C n fa vs σ P) (k : ∀ v σ', P v σ' → P' v σ') : Fn C n fa vs σ P' :=
  fun A s xs R S V RR hR => h A s xs R S V RR fun v x σ' s' p => hR v x σ' s' (k v σ' p)

structure FnIs (C : Cx) (fa : Addr) (ps : List Str) (body : List Stmt) (sc : Scope) : Prop where
  ex : ∃ o fd, C.K.lookup fa = some o ∧ o.cls = .type "function" ∧ o.data = .func fd ∧ fd.scope = sc ∧ fd.body = .stmts body ∧ fd.globals = mainGlobals ∧ fd.builtins = builtinsNs ∧ fd.closure = [] ∧ codeIn C.K fd.code fd.qualname = true ∧
    ∀ xs : List Value, xs.length = ps.length → bindArgs fd ⟨xs, []⟩ = pure (ps.zip xs)

/-- the name f stands at the top for the function at fa -/
structure GlobF (C : Cx) (x : Str) (fa : Addr) : Prop where
  ns : nsIn C.K mainGlobals x = some (some (.ref fa))
  fn : ∃ o fd, C.K.lookup fa = some o ∧ o.data = .func fd
  nd : (x == ("__debug__" : Str)) = false

theorem E_call {x : Str} {np pos : Pos} {args : List Expr} {fa : Addr} (ok : C.Ok) (g : GlobF C x fa) (hk : env.kindOf x = some .globalImplicit)
    (h : Evs C n env m pos args σ (fun vs σ1 => Fn C n fa vs σ1 P)) (hp : (backTo pos (starEach args env)) = [] ∨ (∃ t r, backTo pos (starEach args env) = (false, t) :: r) := by first | exact Or.inl rfl | exact Or.inr ⟨_, _, rfl⟩) : Ev C n env m (.Call (.Name x np) args [] pos) σ P := by
  intro A s R S F E Q hQ
  refine wpAny_Call_ofName (wp_glob ok S F hk g.nd g.ns ?_)
  show wpAny _ _ (callWith pos (.ref fa) [] (backTo pos (starEach args env)) []) _ _ _
  obtain ⟨o, fd, e1, e2⟩ := g.fn
  have fin : ∀ vs xs σ1 s1, Fn C n fa vs σ1 P → SR C σ1 s1 → Step σ s σ1 s1 → VRs s1.heap vs xs → (s1.heap.get? fa = some o ∧ o.data = .func fd) ∧ wpAny C.M A (call (.ref fa) ([] ++ xs) []) Q E s1 := by
    intro vs xs σ1 s1 h2 S1 T1 V1
    refine ⟨⟨S1.keep _ _ (ok.kin _ _ e1), e2⟩, wpAny_call (h2 A s1 xs R S1 V1 _ ?_)⟩
    intro v x σ2 s2 p S2 T2 V2
    exact hQ v x σ2 s2 p S2 (T1.trans T2) V2
  refine Calls.callWith_function (o := o) (fd := fd) ?_
  rcases hp with hp | ⟨t, r, hp⟩
  · have h' := h A s R S F E _ fun vs xs σ1 s1 h2 S1 T1 V1 => fin vs xs σ1 s1 h2 S1 T1 V1
    rw [hp] at h' ⊢
    exact evalArgs_spl0 h'
  · have h' := h A s R S F E _ fun vs xs σ1 s1 h2 S1 T1 V1 => fin vs xs σ1 s1 h2 S1 T1 V1
    rw [hp] at h' ⊢
    exact Calls.evalArgs_plain h'
end
inductive Out where
  | next | brk | cont
  | ret (v : V)
noncomputable def OutR (h : Heap) : Out → Flow → Prop
  | .next, f => f = .next
  | .brk, f => f = .brk
  | .cont, f => f = .cont
  | .ret v, f => ∃ x, f = .ret x ∧ VR h v x

structure StepL (env : Env) (σ : AH) (s : Shared) (σ' : AH) (s' : Shared) : Prop where
  keep : ∀ b o, s.heap.get? b = some o → σ b = none → b ≠ env.locals → (∀ x, env.cells.lookup x ≠ some b) → s'.heap.get? b = some o
  dom : ∀ b, σ' b ≠ none → σ b ≠ none ∨ s.heap.get? b = none
  mono : ∀ b, σ b ≠ none → σ' b ≠ none
theorem Step.toL {env : Env} {σ σ' : AH} {s s' : Shared} (x : Step σ s σ' s') : StepL env σ s σ' s' := ⟨fun b o e e1 _ _ => x.keep b o e e1, x.dom, x.mono⟩
theorem StepL.refl (env : Env) (σ : AH) (s : Shared) : StepL env σ s σ s := (Step.refl σ s).toL

theorem Ns_unique {h : Heap} {a : Addr} {m m' : Str → Option Value} (x : h.Ns a m) (y : h.Ns a m') : m = m' := by
  obtain ⟨o, es, ep, ho, hd, _, hf⟩ := x
  obtain ⟨o', es', ep', ho', hd', _, hf'⟩ := y
  rw [ho] at ho'; cases ho'
  rw [hd] at hd'; cases hd'
  funext n; rw [← hf, ← hf']
theorem cell_ne_ns {h : Heap} {a c : Addr} {m : Str → Option Value} {v : Option Value} (x : h.Ns a m) (y : h.IsCell c v) : c ≠ a := by
  rintro rfl
  obtain ⟨o, es, ep, ho, hd, _, hf⟩ := x
  obtain ⟨o', ho', hd'⟩ := y
  rw [ho] at ho'; cases ho'
  rw [hd] at hd'; cases hd'

/-- steps in the same frame -/
theorem StepL.trans {C : Cx} {env : Env} {m : Vars} {σ₁ σ₂ σ₃ : AH} {s₁ s₂ s₃ : Shared} (F : FrR C env m σ₂ s₂) (x : StepL env σ₁ s₁ σ₂ s₂) (y : StepL env σ₂ s₂ σ₃ s₃) : StepL env σ₁ s₁ σ₃ s₃ := by
  have off : ∀ b o, s₁.heap.get? b = some o → σ₁ b = none → σ₂ b = none := fun b o e e1 => by
    cases h : σ₂ b with
    | none => rfl
    | some z =>
      rcases x.dom b (by rw [h]; exact Option.some_ne_none _) with q | q
      · exact absurd e1 q
      · rw [e] at q; cases q
  refine ⟨fun b o e e1 n1 n2 => y.keep b o (x.keep b o e e1 n1 n2) (off b o e e1) n1 n2, fun b e => ?_, fun b e => y.mono b (x.mono b e)⟩
  rcases y.dom b e with q | q
  · exact x.dom b q
  · cases h1 : σ₁ b with
    | some z => exact .inl (Option.some_ne_none _)
    | none =>
      cases h2 : s₁.heap.get? b with
      | none => exact .inr rfl
      | some o =>
        exfalso
        by_cases n1 : b = env.locals
        · obtain ⟨mm, o, es, ep, ho, _⟩ := F.ns
          rw [n1, ho] at q; cases q
        · by_cases n2 : ∀ x, env.cells.lookup x ≠ some b
          · rw [x.keep b o h2 h1 n1 n2] at q; cases q
          · obtain ⟨y, hy⟩ := Classical.not_forall.mp n2
            obtain ⟨⟨ov, o', ho, _⟩, _⟩ := F.cells y b (Classical.not_not.mp hy)
            rw [ho] at q; cases q

/-- a tree of flow in a frame -/
noncomputable def Ex1 (C : Cx) (n : Nat) (env : Env) (m : Vars) (t : Sem Flow) (σ : AH) (P : Out → Vars → AH → Prop) : Prop :=
  ∀ A s, Room n A → SR C σ s → FrR C env m σ s → ∀ (E : Value → Shared → Prop) (Q : Flow → Shared → Prop),
    (∀ o f m' σ' s', P o m' σ' → OutR s'.heap o f → SR C σ' s' → FrR C env m' σ' s' → StepL env σ s σ' s' → Q f s') → wpAny C.M A t Q E s
noncomputable abbrev Ex (C : Cx) (n : Nat) (env : Env) (m : Vars) (b : List Stmt) (σ : AH) (P : Out → Vars → AH → Prop) : Prop := Ex1 C n env m (execs b env) σ P

section
variable {C : Cx} {n : Nat} {env : Env} {m : Vars} {σ : AH} {P : Out → Vars → AH → Prop} {rest : List Stmt}

theorem Ex1.mono {t : Sem Flow} {P' : Out → Vars → AH → Prop} (h : Ex1 C n env m t σ P) (k : ∀ o m' σ', P o m' σ' → P' o m' σ') : Ex1 C n env m t σ P' :=
  fun A s R S F E Q hQ => h A s R S F E Q fun o f m' σ' s' p => hQ o f m' σ' s' (k o m' σ' p)
theorem Ex1.sub {t : Sem Flow} {m' : Vars} (hs : Sub m' m) (h : Ex1 C n env m' t σ P) : Ex1 C n env m t σ P :=
  fun A s R S F E Q hQ => h A s R S (F.sub hs) E Q hQ

/-- the post as one name -/
theorem Ex.gen {b : List Stmt} (h : ∀ P' : Out → Vars → AH → Prop, (∀ o m' σ', P o m' σ' → P' o m' σ') → Ex C n env m b σ P') : Ex C n env m b σ P := h P fun _ _ _ p => p

/-- what follows behind a statement -/
noncomputable def Then (C : Cx) (n : Nat) (env : Env) (rest : List Stmt) (P : Out → Vars → AH → Prop) (o : Out) (m : Vars) (σ : AH) : Prop := match o with
  | .next => Ex C n env m rest σ P
  | o => P o m σ

theorem X_nil (h : P .next m σ) : Ex C n env m [] σ P := fun A s R S F E Q hQ => wpAny_execs_nil (hQ .next .next m σ s h rfl S F (StepL.refl _ _ _))
theorem X_cons {st : Stmt} (h : Ex1 C n env m (exec st env) σ (Then C n env rest P)) : Ex C n env m (st :: rest) σ P := by
  intro A s R S F E Q hQ
  refine wpAny_execs_cons (h A s R S F E _ ?_)
  intro o f m1 σ1 s1 h2 e S1 F1 T1
  cases o with
  | next =>
    obtain rfl := e
    exact h2 A s1 R S1 F1 E _ fun o f m' σ' s' p e S' F' T' => hQ o f m' σ' s' p e S' F' (T1.trans F1 T')
  | brk => obtain rfl := e; exact hQ .brk _ m1 σ1 s1 h2 rfl S1 F1 T1
  | cont => obtain rfl := e; exact hQ .cont _ m1 σ1 s1 h2 rfl S1 F1 T1
  | ret v => obtain ⟨x, rfl, r⟩ := e; exact hQ (.ret v) _ m1 σ1 s1 h2 ⟨x, rfl, r⟩ S1 F1 T1

theorem FrR.tup {s s' : Shared} (F : FrR C env m σ s) (k : ∀ b o, b ≠ env.locals → s.heap.get? b = some o → s'.heap.get? b = some o) : TupKeep s.heap s'.heap := fun b o xs q e c d => by
  refine k b o ?_ e
  rintro rfl
  obtain ⟨mm, o', es, ep, ho, hd, _⟩ := F.ns
  rw [e] at ho; cases ho; rw [d] at hd; cases hd

/-- a name of the frame is stored -/
theorem wp_store {A : Around} {s : Shared} {E : Value → Shared → Prop} {Q : Unit → Shared → Prop} {x : Str} {v : V} {y : Value} (S : SR C σ s) (F : FrR C env m σ s) (hv : VR s.heap v y)
    (hk : env.kindOf x = some .local ∨ (env.kindOf x = some .cell ∧ (env.cells.lookup x).isSome = true)) (hd : (x == ("__debug__" : Str)) = false)
    (h : ∀ s', SR C σ s' → FrR C env ((x, v) :: m) σ s' → StepL env σ s σ s' → Q () s') : wpAny C.M A (storeName env x y) Q E s := by
  rcases hk with hk | ⟨hk, hc⟩
  · obtain ⟨mm, hn⟩ := F.ns
    refine wpAny_storeName_local hk hn (fun h' hn' hs => ?_) (by rw [F.ok.kind]; rfl)
    have k : ∀ b o, b ≠ env.locals → s.heap.get? b = some o → h'.get? b = some o := fun b o nb e => (hs.2 b nb).trans e
    have tk : TupKeep s.heap h' := F.tup (s' := { s with heap := h' }) k
    have kc : ∀ y c o, env.cells.lookup y = some c → s.heap.get? c = some o → h'.get? c = some o := fun y c o e q => by
      obtain ⟨⟨ov, hcell⟩, _⟩ := F.cells y c e
      exact k c o (cell_ne_ns hn hcell) q
    refine h _ (S.but (L := env.locals) F.off F.new (fun o xs q e hd' => ?_) k rfl rfl) ⟨F.ok, fun z u e => ?_, ⟨_, hn'⟩, F.new, F.off, fun z c e => ?_, F.apart⟩ ⟨fun b o e _ nb _ => k b o nb e, fun b e => .inl e, fun _ e => e⟩
    · obtain ⟨o', es, ep, ho, hd, _⟩ := hn
      rw [e] at ho; cases ho; rw [hd'] at hd; cases hd
    · rw [List.lookup_cons] at e
      cases hb : z == x with
      | true =>
        rw [hb] at e; cases e
        obtain rfl := beq_iff_eq.mp hb
        exact ⟨hd, .inl ⟨hk, _, y, hn', if_pos rfl, hv.keep tk⟩⟩
      | false =>
        rw [hb] at e
        obtain ⟨e1, q⟩ := F.vars z u e
        refine ⟨e1, ?_⟩
        rcases q with ⟨k1, m1, y1, hm1, ey, r⟩ | ⟨k1, c, y1, ec, hcell, r⟩ | ⟨k1, k2, c, y1, ec, hcell, r⟩
        · refine .inl ⟨k1, _, y1, hn', ?_, r.keep tk⟩
          rw [if_neg (by simpa using hb), Ns_unique hn hm1]; exact ey
        · obtain ⟨o, ho, q⟩ := hcell
          exact .inr (.inl ⟨k1, c, y1, ec, ⟨o, kc z c o ec ho, q⟩, r.keep tk⟩)
        · obtain ⟨o, ho, q⟩ := hcell
          exact .inr (.inr ⟨k1, k2, c, y1, ec, ⟨o, kc z c o ec ho, q⟩, r.keep tk⟩)
    · obtain ⟨⟨ov, o, ho, q⟩, h1, h2⟩ := F.cells z c e
      exact ⟨⟨ov, o, kc z c o e ho, q⟩, h1, h2⟩
  · obtain ⟨c, ec⟩ := Option.isSome_iff_exists.mp hc
    obtain ⟨⟨ov, hcell⟩, c0, c1⟩ := F.cells x c ec
    refine wpAny_storeName_cell F.ok.kind hk ec hcell fun h' hc' hs => ?_
    obtain ⟨mm, hn⟩ := F.ns
    have k : ∀ b o, b ≠ c → s.heap.get? b = some o → h'.get? b = some o := fun b o nb e => (hs.2 b nb).trans e
    have nL : env.locals ≠ c := fun e => cell_ne_ns hn hcell e.symm
    have hn' : h'.Ns env.locals mm := by
      obtain ⟨o, es, ep, ho, q⟩ := hn
      exact ⟨o, es, ep, k _ _ nL ho, q⟩
    have tk : TupKeep s.heap h' := fun b o xs q e c' d => k b o (by
      rintro rfl
      obtain ⟨o', ho, hd'⟩ := hcell
      rw [e] at ho; cases ho; rw [d] at hd'; cases hd') e
    refine h _ (S.but (L := c) c1 c0 (fun o xs q e hd' => ?_) k rfl rfl) ⟨F.ok, fun z u e => ?_, ⟨_, hn'⟩, F.new, F.off, fun z d e => ?_, F.apart⟩ ⟨fun b o e _ _ nb => k b o (fun q => nb x (q ▸ ec)) e, fun b e => .inl e, fun _ e => e⟩
    · obtain ⟨o', ho, hd⟩ := hcell
      rw [e] at ho; cases ho; rw [hd'] at hd; cases hd
    · rw [List.lookup_cons] at e
      cases hb : z == x with
      | true =>
        rw [hb] at e; cases e
        obtain rfl := beq_iff_eq.mp hb
        exact ⟨hd, .inr (.inl ⟨hk, c, y, ec, hc', hv.keep tk⟩)⟩
      | false =>
        rw [hb] at e
        obtain ⟨e1, q⟩ := F.vars z u e
        have nz : z ≠ x := by simpa using hb
        refine ⟨e1, ?_⟩
        rcases q with ⟨k1, m1, y1, ⟨o, es, ep, ho, q⟩, ey, r⟩ | ⟨k1, d, y1, ed, ⟨o, ho, q⟩, r⟩ | ⟨k1, k2, d, y1, ed, ⟨o, ho, q⟩, r⟩
        · exact .inl ⟨k1, _, y1, ⟨o, es, ep, k _ _ nL ho, q⟩, ey, r.keep tk⟩
        · exact .inr (.inl ⟨k1, d, y1, ed, ⟨o, k _ _ (fun q => nz (F.apart _ _ _ ed (q ▸ ec))) ho, q⟩, r.keep tk⟩)
        · exact .inr (.inr ⟨k1, k2, d, y1, ed, ⟨o, k _ _ (fun q => nz (F.apart _ _ _ ed (q ▸ ec))) ho, q⟩, r.keep tk⟩)
    · obtain ⟨⟨ov', o, ho, q⟩, h1, h2⟩ := F.cells z d e
      by_cases hcd : d = c
      · rw [hcd]; exact ⟨⟨_, hc'⟩, c0, c1⟩
      · exact ⟨⟨ov', o, k d o hcd ho, q⟩, h1, h2⟩

/-- the name x may be stored in this block -/
structure Sto (env : Env) (x : Str) : Prop where
  kind : env.kindOf x = some .local ∨ (env.kindOf x = some .cell ∧ (env.cells.lookup x).isSome = true)
  nd : (x == ("__debug__" : Str)) = false

theorem X_assign {x : Str} {px pos : Pos} {value : Expr} (hk : Sto env x) (h : Ev C n env m value σ (fun v σ1 => Ex C n env ((x, v) :: m) rest σ1 P)) (hs : isComp value = false := by rfl) : Ex C n env m (.Assign [.Name x px] value pos :: rest) σ P := by
  refine X_cons fun A s R S F E Q hQ => wpAny_Assign_Name (h A s R S F E _ ?_) (swap_of hs)
  intro v y σ1 s1 h2 S1 T1 V1
  refine wp_store S1 (F.step S T1) V1 hk.kind hk.nd fun s2 S2 F2 T2 => ?_
  exact hQ .next _ _ σ1 s2 h2 rfl S2 F2 (T1.toL.trans (F.step S T1) T2)
theorem X_ret {value : Expr} {pos : Pos} (h : Ev C n env m value σ (fun v σ1 => P (.ret v) m σ1)) : Ex C n env m (.Return (some value) pos :: rest) σ P := by
  refine X_cons fun A s R S F E Q hQ => wpAny_Return_some (h A s R S F E _ ?_)
  intro v y σ1 s1 h2 S1 T1 V1
  exact hQ (.ret v) _ m σ1 s1 h2 ⟨y, rfl, V1⟩ S1 (F.step S T1) T1.toL
theorem X_brk {pos : Pos} (h : P .brk m σ) : Ex C n env m (.Break pos :: rest) σ P := by
  refine X_cons fun A s R S F E Q hQ => ?_
  exact wpAny_Break (hQ .brk _ m σ s h rfl S F (StepL.refl _ _ _))
theorem X_if {test : Expr} {body orelse : List Stmt} {pos : Pos} (h : Tst C n env m test σ (fun b σ1 => (b = true → Ex C n env m body σ1 (Then C n env rest P)) ∧ (b = false → Ex C n env m orelse σ1 (Then C n env rest P)))) : Ex C n env m (.If test body orelse pos :: rest) σ P := by
  refine X_cons fun A s R S F E Q hQ => wpAny_If (h A s R S F E _ ?_)
  rintro b c σ1 s1 ⟨ht, hf⟩ S1 T1 rfl
  cases b with
  | true =>
    simp only [if_true]
    exact ht rfl A s1 R S1 (F.step S T1) E _ fun o f m' σ' s' p e S' F' T' => hQ o f m' σ' s' p e S' F' (T1.toL.trans (F.step S T1) T')
  | false =>
    simp only [Bool.false_eq_true, if_false]
    exact hf rfl A s1 R S1 (F.step S T1) E _ fun o f m' σ' s' p e S' F' T' => hQ o f m' σ' s' p e S' F' (T1.toL.trans (F.step S T1) T')
/-- an expression for its effect; its value is none -/
theorem X_expr {e : Expr} {pos : Pos} (h : Ev C n env m e σ (fun v σ1 => v = .none ∧ Ex C n env m rest σ1 P)) (hs : isComp e = false := by rfl) : Ex C n env m (.Expr e pos :: rest) σ P := by
  refine X_cons fun A s R S F E Q hQ => wpAny_Expr (h A s R S F E _ ?_) (by unfold interactive; rw [F.ok.kind]; rfl) (swap_of hs)
  rintro v y σ1 s1 ⟨rfl, h2⟩ S1 T1 V1
  obtain ⟨_, as, r⟩ := V1
  cases r
  exact hQ .next _ m σ1 s1 h2 rfl S1 (F.step S T1) T1.toL
/-- .. or an int that is dropped -/
theorem X_exprI {e : Expr} {pos : Pos} (h : Ev C n env m e σ (fun v σ1 => (∃ i, v = .int i) ∧ Ex C n env m rest σ1 P)) (hs : isComp e = false := by rfl) : Ex C n env m (.Expr e pos :: rest) σ P := by
  refine X_cons fun A s R S F E Q hQ => wpAny_Expr (h A s R S F E _ ?_) (by unfold interactive; rw [F.ok.kind]; rfl) (swap_of hs)
  rintro v y σ1 s1 ⟨⟨i, rfl⟩, h2⟩ S1 T1 V1
  obtain ⟨t, rfl⟩ := V1.intT
  exact hQ .next _ m σ1 s1 h2 rfl S1 (F.step S T1) T1.toL

/-- while: a state of one's own, a measure -/
theorem X_while {ι : Type} {test : Expr} {body : List Stmt} {pos : Pos} (I : ι → Vars → AH → Prop) (meas : ι → Nat) (i₀ : ι) (h0 : I i₀ m σ)
    (turn : ∀ i m' σ', I i m' σ' → Tst C n env m' test σ' (fun b σ1 =>
      (b = true → Ex C n env m' body σ1 (fun o m2 σ2 => match o with
        | .next | .cont => ∃ j, meas j < meas i ∧ I j m2 σ2
        | .brk => Ex C n env m2 rest σ2 P
        | .ret v => P (.ret v) m2 σ2)) ∧
      (b = false → Ex C n env m' rest σ1 P))) : Ex C n env m (.While test body [] pos :: rest) σ P := by
  refine X_cons fun A s R S F E Q hQ => wpAny_While ?_
  refine codeAny_whileLoop (fun k s' => ∃ i m' σ', meas i = k ∧ I i m' σ' ∧ SR C σ' s' ∧ FrR C env m' σ' s' ∧ StepL env σ s σ' s') ?_ (meas i₀) ⟨i₀, m, σ, rfl, h0, S, F, StepL.refl _ _ _⟩
  rintro k s1 ⟨i, m1, σ1, rfl, hI, S1, F1, T1⟩
  refine turn i m1 σ1 hI A s1 R S1 F1 _ _ ?_
  rintro b c σ2 s2 ⟨ht, hf⟩ S2 T2 rfl
  have F2 := F1.step S1 T2
  have T12 := T1.trans F1 T2.toL
  cases b with
  | true =>
    simp only [if_true]
    refine ht rfl A s2 R S2 F2 _ _ ?_
    intro o f m3 σ3 s3 p e S3 F3 T3
    cases o with
    | next => obtain rfl := e; obtain ⟨j, hj, hI'⟩ := p; exact ⟨_, hj, j, m3, σ3, rfl, hI', S3, F3, T12.trans F2 T3⟩
    | cont => obtain rfl := e; obtain ⟨j, hj, hI'⟩ := p; exact ⟨_, hj, j, m3, σ3, rfl, hI', S3, F3, T12.trans F2 T3⟩
    | brk => obtain rfl := e; exact hQ .next _ m3 σ3 s3 p rfl S3 F3 (T12.trans F2 T3)
    | ret v => obtain ⟨x, rfl, r⟩ := e; exact hQ (.ret v) _ m3 σ3 s3 p ⟨x, rfl, r⟩ S3 F3 (T12.trans F2 T3)
  | false =>
    simp only [Bool.false_eq_true, if_false]
    exact wpAny_execs_nil (hQ .next _ m1 σ2 s2 (hf rfl) rfl S2 F2 T12)
end
/-- an iterator at it over items; cond: what σ must go on to say -/
structure Iter (C : Cx) (it : Addr) (items : List V) (cond : AH → Prop) (St : Nat → Heap → Prop) : Prop where
  there : ∀ i h, St i h → ∃ o vs, h.get? it = some o ∧ o.data = .fields vs
  keep : ∀ i h h', St i h → TupKeep h h' → (∀ o, h.get? it = some o → h'.get? it = some o) → St i h'
  item : ∀ {A : Around} {s : Shared} {σ : AH} {i : Nat} {v : V} {E : Value → Shared → Prop} {Q : Option Value → Shared → Prop}, A.handled = none → SR C σ s → cond σ → St i s.heap → items[i]? = some v →
    (∀ y h' tk, VR s.heap v y → St (i + 1) h' → Heap.SameBut it s.heap h' → Q (some y) { s with heap := h', toks := tk }) → wpAny C.M A (pyNext (.ref it)) Q E s
  fin : ∀ {A : Around} {s : Shared} {σ : AH} {i : Nat} {E : Value → Shared → Prop} {Q : Option Value → Shared → Prop}, A.handled = none → SR C σ s → cond σ → St i s.heap → items[i]? = none →
    (∀ h', Heap.ExtBut it s.heap h' → Q none { s with heap := h' }) → wpAny C.M A (pyNext (.ref it)) Q E s
  self : ∀ {A : Around} {s : Shared} {i : Nat} {E : Value → Shared → Prop} {Q : Value → Shared → Prop}, St i s.heap → Q (.ref it) s → wpAny C.M A (pyIter (.ref it)) Q E s

noncomputable def Src (C : Cx) (v : V) (σ : AH) (items : List V) (cond : AH → Prop) : Prop :=
  ∀ (A : Around) (s : Shared) (x : Value), SR C σ s → VR s.heap v x → ∀ (E : Value → Shared → Prop) (Q : Value → Shared → Prop),
    (∀ St o, Iter C s.heap.objs.size items cond St → St 0 (s.heap.push o) → Q (.ref s.heap.objs.size) { s with heap := s.heap.push o }) → wpAny C.M A (pyIter x) Q E s

theorem VRs.at {h : Heap} {vs : List V} {xs : Array Value} (r : VRs h vs xs.toList) {i : Nat} {v : V} (e : vs[i]? = some v) : ∃ x, xs[i]? = some x ∧ VR h v x := by
  obtain ⟨x, hx, q⟩ := r.get e
  exact ⟨x, by rw [← Array.getElem?_toList]; exact hx, q⟩
theorem VRs.out {h : Heap} {vs : List V} {xs : Array Value} (r : VRs h vs xs.toList) {i : Nat} (e : vs[i]? = none) : xs[i]? = none := by
  have h1 := r.length
  rw [List.getElem?_eq_none_iff] at e
  rw [← Array.getElem?_toList, List.getElem?_eq_none_iff]
  omega

section
variable {C : Cx} {n : Nat} {env : Env} {m : Vars} {σ : AH}

theorem src_list {l : Addr} {vs : List V} (e : σ l = some (.list vs)) : Src C (.obj l) σ vs (fun σ => σ l = some (.list vs)) := by
  rintro A s x S rfl E Q hQ
  obtain ⟨xs, k, hl, r⟩ := (S.objs l _ e).1
  refine wpAny_pyIter_list hl.isList (hQ (fun i h => h.IsListIter s.heap.objs.size l i) _ ⟨?_, ?_, ?_, ?_, ?_⟩ ?_)
  · rintro i h ⟨o, ho, _, hd⟩; exact ⟨o, _, ho, hd⟩
  · rintro i h h' ⟨o, ho, q⟩ _ k; exact ⟨o, k _ ho, q⟩
  · intro A s' σ' i v E Q hh S' c hi hv hq
    obtain ⟨xs', k', hl', r'⟩ := (S'.objs l _ c).1
    obtain ⟨y, hy, ry⟩ := r'.at hv
    refine wpAny_pyNext_list_item hi hl'.isList hy fun h' hi' hs => ?_
    exact hq y h' s'.toks ry hi' hs
  · intro A s' σ' i E Q hh S' c hi hv hq
    obtain ⟨xs', k', hl', r'⟩ := (S'.objs l _ c).1
    exact wpAny_pyNext_list_end hh hi hl'.isList (r'.out hv) fun h' hs => hq h' hs
  · intro A s' i E Q hi hq; exact wpAny_pyIter_listiter hi hq
  · exact ⟨_, Heap.get?_push_size _ rfl, rfl, rfl⟩

theorem src_tup {ds : List PyData} : Src C (.tup ds) σ (dats ds) (fun _ => True) := by
  intro A s x S r E Q hQ
  obtain ⟨a, xs, rfl, ht, rs⟩ := r.tupT
  refine wpAny_pyIter_tuple (items := xs) ht (hQ (fun i h => h.IsTupleIter s.heap.objs.size a i ∧ h.IsTuple a xs ∧ VRs h (dats ds) xs.toList) _ ⟨?_, ?_, ?_, ?_, ?_⟩ ?_)
  · rintro i h ⟨⟨o, ho, _, hd⟩, _⟩; exact ⟨o, _, ho, hd⟩
  · rintro i h h' ⟨⟨o, ho, q⟩, ⟨o', ho', hc, k', hd⟩, rs⟩ tk k; exact ⟨⟨o, k _ ho, q⟩, ⟨o', tk _ _ _ _ ho' hc hd, hc, k', hd⟩, rs.keep tk⟩
  · rintro A s' σ' i v E Q hh S' c ⟨hi, ht', rs'⟩ hv hq
    obtain ⟨y, hy, ry⟩ := rs'.at hv
    refine wpAny_pyNext_tuple_item hi ht' hy fun h' hi' hs => ?_
    have tk : TupKeep s'.heap h' := fun b o ys k e c d => (hs.2 b (by
      rintro rfl
      obtain ⟨o', ho', hc', hd'⟩ := hi
      rw [e] at ho'; cases ho'; rw [hd'] at d; cases d)).trans e
    obtain ⟨o', ho', hc, k', hd⟩ := ht'
    exact hq y h' s'.toks ry ⟨hi', ⟨o', tk _ _ _ _ ho' hc hd, hc, k', hd⟩, rs'.keep tk⟩ hs
  · rintro A s' σ' i E Q hh S' c ⟨hi, ht', rs'⟩ hv hq
    exact wpAny_pyNext_tuple_end hh hi ht' (rs'.out hv) fun h' hs => hq h' hs
  · intro A s' i E Q hi hq; exact wpAny_pyIter_tupleiter hi.1 hq
  · have tk := TupKeep.of_keep (push_keep (h := s.heap) { cls := .type "tuple_iterator", data := .fields #[.ref a, .int 0 0] })
    obtain ⟨o', ho', hc, k', hd⟩ := ht
    exact ⟨⟨_, Heap.get?_push_size _ rfl, rfl, rfl⟩, ⟨o', tk _ _ _ _ ho' hc hd, hc, k', hd⟩, rs.keep tk⟩

noncomputable def rngItems (a b : Int) : List V := (List.range (b - a).toNat).map fun i : Nat => V.int (a + (i : Int))
theorem src_rng {r : Addr} {a b : Int} (e : σ r = some (.rng a b)) (ha : -(2 ^ 62) ≤ a) (ha' : a < 2 ^ 62) (hb : -(2 ^ 62) ≤ b) (hb' : b < 2 ^ 62) : Src C (.obj r) σ (rngItems a b) (fun _ => True) := by
  rintro A s x S rfl E Q hQ
  obtain ⟨t, u, v, hr⟩ := (S.objs r _ e).1
  have hsz := PyProof.Rows.rangeSize_nat a b
  refine wpAny_pyIter_range hr (small_one ha ha' hb hb') (hQ (fun i h => i ≤ (b - a).toNat ∧ IsRangeIter h s.heap.objs.size (a + (i : Int)) (((b - a).toNat : Int) - (i : Int)) 1) _ ⟨?_, ?_, ?_, ?_, ?_⟩ ?_)
  · rintro i h ⟨_, q⟩; exact ⟨_, _, q, rfl⟩
  · rintro i h h' ⟨p, q⟩ _ k; exact ⟨p, k _ q⟩
  · rintro A s' σ' i v E Q hh S' c ⟨hi, q⟩ hv hq
    have hlt : i < (b - a).toNat := by
      have := (List.getElem?_eq_some_iff.mp hv).1
      simpa [rngItems] using this
    have ev : v = V.int (a + (i : Int)) := by
      simp [rngItems, List.getElem?_range hlt] at hv
      exact hv.symm
    subst ev
    refine wpAny_pyNext_range_item q (by omega) fun h' q' hs => ?_
    refine hq _ h' _ (VR.mkInt _ _) ⟨by omega, ?_⟩ hs
    have e1 : a + (i : Int) + 1 = a + ((i + 1 : Nat) : Int) := by omega
    have e2 : ((b - a).toNat : Int) - (i : Int) - 1 = ((b - a).toNat : Int) - ((i + 1 : Nat) : Int) := by omega
    rw [← e1, ← e2]; exact q'
  · rintro A s' σ' i E Q hh S' c ⟨hi, q⟩ hv hq
    have hge : (b - a).toNat ≤ i := by
      have := List.getElem?_eq_none_iff.mp hv
      simpa [rngItems] using this
    exact wpAny_pyNext_range_end hh q (by omega) fun h' hs => hq h' hs
  · intro A s' i E Q hi hq; exact wpAny_pyIter_rangeiter hi.2 hq
  · refine ⟨Nat.zero_le _, ?_⟩
    rw [hsz]
    have : a + ((0 : Nat) : Int) = a := by omega
    have e2 : ((b - a).toNat : Int) - ((0 : Nat) : Int) = ((b - a).toNat : Int) := by omega
    rw [this, e2]
    exact Heap.get?_push_size _ rfl

/-- a change at an object that is no one's -/
theorem FrR.but {s s' : Shared} {it : Addr} (F : FrR C env m σ s) (hd : ∃ o vs, s.heap.get? it = some o ∧ o.data = .fields vs) (k : ∀ b o, b ≠ it → s.heap.get? b = some o → s'.heap.get? b = some o) : FrR C env m σ s' := by
  obtain ⟨oi, vs, hoi, hdi⟩ := hd
  have tk : TupKeep s.heap s'.heap := fun b o xs q e c d => k b o (by rintro rfl; rw [e] at hoi; cases hoi; rw [d] at hdi; cases hdi) e
  obtain ⟨mm, oL, es, ep, hL, hLd, q⟩ := F.ns
  have nL : env.locals ≠ it := by rintro e; rw [e, hoi] at hL; cases hL; rw [hLd] at hdi; cases hdi
  have kl : ∀ o, s.heap.get? env.locals = some o → s'.heap.get? env.locals = some o := fun o e => k _ _ nL e
  have nc : ∀ y c o, env.cells.lookup y = some c → s.heap.get? c = some o → s'.heap.get? c = some o := fun y c o e q => by
    refine k c o ?_ q
    rintro rfl
    obtain ⟨⟨ov, o', ho', hd'⟩, _⟩ := F.cells y c e
    rw [hoi] at ho'; cases ho'; rw [hdi] at hd'; cases hd'
  refine ⟨F.ok, fun y v e => (F.vars y v e).keep tk kl nc, ⟨mm, oL, es, ep, kl _ hL, hLd, q⟩, F.new, F.off, fun y c e => ?_, F.apart⟩
  obtain ⟨⟨ov, o, ho, q⟩, h1, h2⟩ := F.cells y c e
  exact ⟨⟨ov, o, nc y c o e ho, q⟩, h1, h2⟩
theorem StepL.but {σ' : AH} {s s₁ s₂ : Shared} {it : Addr} (T : StepL env σ s σ' s₁) (hn : s.heap.get? it = none) (k : ∀ b o, b ≠ it → s₁.heap.get? b = some o → s₂.heap.get? b = some o) : StepL env σ s σ' s₂ :=
  ⟨fun b o e e1 n1 n2 => k b o (by rintro rfl; rw [hn] at e; cases e) (T.keep b o e e1 n1 n2), T.dom, T.mono⟩

variable {P : Out → Vars → AH → Prop} {rest : List Stmt}

structure LoopSt (C : Cx) (env : Env) (σ : AH) (s : Shared) (it : Addr) (St : Nat → Heap → Prop) (cond : AH → Prop) (i : Nat) (m' : Vars) (σ' : AH) (s' : Shared) : Prop where
  st : St i s'.heap
  S : SR C σ' s'
  F : FrR C env m' σ' s'
  T : StepL env σ s σ' s'
  c : cond σ'
  off : σ' it = none

theorem X_forE {ι : Type} {x : Str} {px pos : Pos} {iter : Expr} {body : List Stmt} (hk : Sto env x)
    (h : Ev C n env m iter σ (fun v σ1 => ∃ (I : ι → List V → AH → Prop) (mv : ι → Vars) (items : List V) (cond : AH → Prop) (i₀ : ι), Src C v σ1 items cond ∧ cond σ1 ∧ Sub (mv i₀) m ∧ I i₀ items σ1 ∧
      (∀ i v rest' σ', I i (v :: rest') σ' → cond σ' → Ex C n env ((x, v) :: mv i) body σ' (fun o m2 σ2 => match o with
        | .next | .cont => cond σ2 ∧ ∃ j, Sub (mv j) m2 ∧ I j rest' σ2
        | .brk => Ex C n env m2 rest σ2 P
        | .ret v => P (.ret v) m2 σ2)) ∧
      (∀ i σ', I i [] σ' → cond σ' → Ex C n env (mv i) rest σ' P)))
    (hs : isSet iter = false := by rfl) : Ex C n env m (.For (.Name x px) iter body [] pos :: rest) σ P := by
  refine X_cons fun A s R S F E Q hQ => wpAny_For (h A s R S F E _ ?_) (fold_of hs)
  rintro v y σ1 s1 ⟨I, mv, items, cond, i₀, src, hc, hsub, hI, turn, done⟩ S1 T1 V1
  have F1 := F.step S T1
  refine src A s1 y S1 V1 E _ ?_
  intro St o hit hst
  have hn1 : s1.heap.get? s1.heap.objs.size = none := get_size _
  have off1 := (S1.none_of_size hn1).1
  have hn0 : s.heap.get? s1.heap.objs.size = none := by
    cases e : s.heap.get? s1.heap.objs.size with
    | none => rfl
    | some o' => obtain ⟨o2, h2⟩ := T1.ex S1 e; rw [hn1] at h2; cases h2
  have h01 := (S1.none_of_size hn1).2
  generalize s1.heap.objs.size = it at *
  have S2 : SR C σ1 { s1 with heap := s1.heap.push o } := S1.grow (push_keep _) rfl rfl
  have T2 : Step σ1 s1 σ1 { s1 with heap := s1.heap.push o } := Step.grow (push_keep _)
  refine codeAny_forLoop (fun k s' => ∃ i j m' σ', i ≤ items.length ∧ k = items.length - i ∧ Sub (mv j) m' ∧ I j (items.drop i) σ' ∧ LoopSt C env σ s it St cond i m' σ' s') ?_ items.length
    ⟨0, i₀, m, σ1, Nat.zero_le _, rfl, hsub, hI, hst, S2, F1.step S1 T2, (T1.trans T2).toL, hc, off1⟩
  rintro k s2 ⟨i, j, m2, σ2, hi, rfl, hsub2, hI2, L⟩
  have hth := hit.there _ _ L.st
  cases hv : items[i]? with
  | none =>
    refine hit.fin R.1 L.S L.c L.st hv fun h' hs' => ?_
    have k : ∀ b o, b ≠ it → s2.heap.get? b = some o → h'.get? b = some o := fun b o nb e => hs' b o nb e
    have S3 : SR C σ2 { s2 with heap := h' } := L.S.but L.off h01 (fun o xs q e hd => by obtain ⟨o', vs, ho, hd'⟩ := hth; rw [e] at ho; cases ho; rw [hd] at hd'; cases hd') k rfl rfl
    have F3 := L.F.but (s' := { s2 with heap := h' }) hth k
    have T3 := L.T.but (s₂ := { s2 with heap := h' }) hn0 k
    have hi' : items.length ≤ i := List.getElem?_eq_none_iff.mp hv
    rw [List.drop_eq_nil_of_le hi'] at hI2
    refine wpAny_execs_nil (hQ .next .next m2 σ2 _ ?_ rfl S3 F3 T3)
    exact Ex1.sub hsub2 (done j σ2 hI2 L.c)
  | some v =>
    have hlt : i < items.length := (List.getElem?_eq_some_iff.mp hv).1
    refine hit.item R.1 L.S L.c L.st hv fun y h' tk ry hst' hs' => ?_
    have k : ∀ b o, b ≠ it → s2.heap.get? b = some o → h'.get? b = some o := fun b o nb e => (hs'.2 b nb).trans e
    have tkp : TupKeep s2.heap h' := fun b o xs q e c d => k b o (by rintro rfl; obtain ⟨o', vs, ho, hd'⟩ := hth; rw [e] at ho; cases ho; rw [d] at hd'; cases hd') e
    have S3 : SR C σ2 { s2 with heap := h', toks := tk } := L.S.but L.off h01 (fun o xs q e hd => by obtain ⟨o', vs, ho, hd'⟩ := hth; rw [e] at ho; cases ho; rw [hd] at hd'; cases hd') k rfl rfl
    have F3 := L.F.but (s' := { s2 with heap := h', toks := tk }) hth k
    have T3 := L.T.but (s₂ := { s2 with heap := h', toks := tk }) hn0 k
    refine wpAny_assign_Name (wp_store S3 F3 (ry.keep tkp) hk.kind hk.nd fun s4 S4 F4 T4 => ?_)
    have hdrop : items.drop i = v :: items.drop (i + 1) := by
      rw [List.drop_eq_getElem_cons hlt]
      rw [List.getElem?_eq_getElem hlt] at hv
      rw [Option.some.inj hv]
    rw [hdrop] at hI2
    have F4' := F4.sub (m' := (x, v) :: mv j) (Sub.under hsub2)
    have itL : it ≠ env.locals := by
      rintro rfl
      obtain ⟨mm, o', es, ep, ho, hd, _⟩ := L.F.ns
      obtain ⟨o2, vs, ho2, hd2⟩ := hth
      rw [ho] at ho2; cases ho2; rw [hd] at hd2; cases hd2
    have itC : ∀ x, env.cells.lookup x ≠ some it := fun x e => by
      obtain ⟨⟨ov, o', ho, hd⟩, _⟩ := L.F.cells x it e
      obtain ⟨o2, vs, ho2, hd2⟩ := hth
      rw [ho] at ho2; cases ho2; rw [hd] at hd2; cases hd2
    have st4 : St (i + 1) s4.heap := by
      obtain ⟨o3, vs3, ho3, hd3⟩ := hit.there _ _ hst'
      refine hit.keep _ _ _ hst' ?_ fun o e => T4.keep _ _ e L.off itL itC
      exact fun b o xs q e c d => T4.keep b o e (by
        cases hz : σ2 b with
        | none => rfl
        | some z => obtain ⟨o', ho', hc'⟩ := ObjR.ex (S3.objs b z hz).1; rw [e] at ho'; cases ho'; exact absurd d (hc' _ _ c)) (by
        rintro rfl
        obtain ⟨mm, o', es, ep, ho, hd, _⟩ := F3.ns
        rw [e] at ho; cases ho; rw [d] at hd; cases hd) (fun x ec => by
        obtain ⟨⟨ov, o', ho, hd⟩, _⟩ := F3.cells x b ec
        rw [e] at ho; cases ho; rw [d] at hd; cases hd)
    refine turn j v _ σ2 hI2 L.c A s4 R S4 F4' _ _ ?_
    intro o f m5 σ5 s5 p e S5 F5 T5
    have T45 := (T3.trans F3 T4).trans F4 T5
    have off5 : σ5 it = none := by
      cases hz : σ5 it with
      | none => rfl
      | some z =>
        rcases T5.dom it (by rw [hz]; exact Option.some_ne_none _) with q | q
        · exact absurd L.off q
        · obtain ⟨o3, vs3, ho3, _⟩ := hit.there _ _ st4
          rw [ho3] at q; cases q
    have st5 : St (i + 1) s5.heap := by
      refine hit.keep _ _ _ st4 ?_ fun o e => T5.keep _ _ e L.off itL itC
      exact fun b o xs q e c d => T5.keep b o e (by
        cases hz : σ2 b with
        | none => rfl
        | some z => obtain ⟨o', ho', hc'⟩ := ObjR.ex (S4.objs b z hz).1; rw [e] at ho'; cases ho'; exact absurd d (hc' _ _ c)) (by
        rintro rfl
        obtain ⟨mm, o', es, ep, ho, hd, _⟩ := F4.ns
        rw [e] at ho; cases ho; rw [d] at hd; cases hd) (fun x ec => by
        obtain ⟨⟨ov, o', ho, hd⟩, _⟩ := F4.cells x b ec
        rw [e] at ho; cases ho; rw [d] at hd; cases hd)
    cases o with
    | next => obtain rfl := e; obtain ⟨hc5, j', hs5, hI5⟩ := p; exact ⟨_, by omega, i + 1, j', m5, σ5, hlt, rfl, hs5, hI5, st5, S5, F5, T45, hc5, off5⟩
    | cont => obtain rfl := e; obtain ⟨hc5, j', hs5, hI5⟩ := p; exact ⟨_, by omega, i + 1, j', m5, σ5, hlt, rfl, hs5, hI5, st5, S5, F5, T45, hc5, off5⟩
    | brk => obtain rfl := e; exact hQ .next _ m5 σ5 s5 p rfl S5 F5 T45
    | ret v => obtain ⟨x, rfl, r⟩ := e; exact hQ (.ret v) _ m5 σ5 s5 p ⟨x, rfl, r⟩ S5 F5 T45
end
theorem bindL_not {k : Str → Option NameKind} {x : Str} : ∀ (l : List (Str × Value)) (m : Str → Option Value), x ∉ l.map (·.1) → bindL k l m x = m x
  | [], _, _ => rfl
  | (y, v) :: r, m, h => by
    simp only [List.map_cons, List.mem_cons, not_or] at h
    rw [bindL, bindL_not r _ h.2]
    split
    · exact if_neg h.1
    · rfl
theorem bindC_not {k : Str → Option NameKind} {x : Str} : ∀ (l : List (Str × Value)) (m : Str → Option Value), x ∉ l.map (·.1) → bindC k l m x = m x
  | [], _, _ => rfl
  | (y, v) :: r, m, h => by
    simp only [List.map_cons, List.mem_cons, not_or] at h
    rw [bindC, bindC_not r _ h.2]
    split
    · rfl
    · exact if_neg h.1
theorem bindL_get {k : Str → Option NameKind} {x : Str} {v : Value} (hk : k x = some .local) : ∀ (l : List (Str × Value)) (m : Str → Option Value), (l.map (·.1)).Nodup → (x, v) ∈ l → bindL k l m x = some v
  | (y, u) :: r, m, hn, h => by
    rw [List.map_cons, List.nodup_cons] at hn
    rcases List.mem_cons.mp h with e | h
    · cases e
      rw [bindL, bindL_not r _ hn.1, if_pos hk]; exact if_pos rfl
    · rw [bindL]; exact bindL_get hk r _ hn.2 h
theorem bindC_get {k : Str → Option NameKind} {x : Str} {v : Value} (hk : k x ≠ some .local) : ∀ (l : List (Str × Value)) (m : Str → Option Value), (l.map (·.1)).Nodup → (x, v) ∈ l → bindC k l m x = some v
  | (y, u) :: r, m, hn, h => by
    rw [List.map_cons, List.nodup_cons] at hn
    rcases List.mem_cons.mp h with e | h
    · cases e
      rw [bindC, bindC_not r _ hn.1, if_neg hk]; exact if_pos rfl
    · rw [bindC]; exact bindC_get hk r _ hn.2 h

theorem zip_mem {h : Heap} : ∀ {ps : List Str} {vs : List V} {xs : List Value}, VRs h vs xs → ∀ {x : Str} {v : V}, (x, v) ∈ ps.zip vs → ∃ y, (x, y) ∈ ps.zip xs ∧ VR h v y
  | [], _, _, _, x, v, e => by simp at e
  | p :: ps, _, _, .nil, x, v, e => by simp at e
  | p :: ps, _, _, .cons a r, x, v, e => by
    rw [List.zip_cons_cons, List.mem_cons] at e
    rcases e with e | e
    · cases e; exact ⟨_, by rw [List.zip_cons_cons]; exact .head _, a⟩
    · obtain ⟨y, hy, q⟩ := zip_mem r e
      exact ⟨y, by rw [List.zip_cons_cons]; exact .tail _ hy, q⟩
theorem zip_keys {α : Type} : ∀ {ps : List Str} {xs : List α}, xs.length = ps.length → (ps.zip xs).map (·.1) = ps
  | [], [], _ => rfl
  | [], _ :: _, h => by simp at h
  | _ :: _, [], h => by simp at h
  | p :: ps, x :: xs, h => by rw [List.zip_cons_cons, List.map_cons, zip_keys (by simpa using h)]

section
variable {C : Cx} {n : Nat} {σ : AH} {P : V → AH → Prop}

theorem get_none {h : Heap} {a : Addr} (q : h.objs.size ≤ a) : h.get? a = none := by
  cases e : h.get? a with
  | none => rfl
  | some o => exact absurd (Heap.lt_size e) (Nat.not_lt.mpr q)

noncomputable def FnPost (P : V → AH → Prop) (o : Out) (m : Vars) (σ : AH) : Prop := match o with
  | .ret v => P v σ
  | .next => P .none σ
  | _ => False

theorem fn_of {fa : Addr} {ps : List Str} {body : List Stmt} {sc : Scope} {vs : List V} (ok : C.Ok) (hf : FnIs C fa ps body sc) (hl : vs.length = ps.length) (hnd : ps.Nodup)
    (hloc : ∀ p ∈ ps, (sc.names.lookup p = some .local ∨ sc.names.lookup p = some .cell) ∧ (p == ("__debug__" : Str)) = false)
    (hco : sc.isCoroutine = false) (hgen : sc.isGenerator = false) (hk : sc.kind = .function)
    (h : ∀ env, env.scope = sc → (∀ x, sc.names.lookup x = some .cell → (env.cells.lookup x).isSome = true) → Ex C n env (ps.zip vs).reverse body σ (FnPost P)) : Fn C (n + 1) fa vs σ P := by
  intro A s xs R S V RR hR
  obtain ⟨o, fd, e1, ecls, e2, e3, e4, e5, e6, e7, e8, e9⟩ := hf.ex
  have hxs : xs.length = ps.length := by rw [← V.length]; exact hl
  have hb := e9 xs hxs
  subst e3
  have cellsome : ∀ x, fd.scope.names.lookup x = some .cell → ((cellsFrom (s.heap.objs.size + 1) fd.scope.names []).lookup x).isSome = true := fun x hx => cellsFrom_some _ _ _ (.inl hx)
  refine codeAny_call_cells (fd := fd) (body := body) (binds := ps.zip xs) R.depth (S.keep _ _ (ok.kin _ _ e1)) e2 (ok.nolimit.keeps S.keep) ((codeRec_of ok.kin e8).keeps S.keep) e4 hb e7 ?_ ?_ hco hgen hk
  · intro x hx
    have hp : x.1 ∈ ps := by rw [← zip_keys hxs]; exact List.mem_map_of_mem hx
    rcases (hloc _ hp).1 with q | q
    · exact .inl q
    · exact .inr ⟨q, cellsome _ q⟩
  · intro s₁ x
    have hsome : ∀ y, fd.scope.names.lookup y = some .cell → ((callEnvC fd s.heap.objs.size fa).cells.lookup y).isSome = true := cellsome
    have hscope : (callEnvC fd s.heap.objs.size fa).scope = fd.scope := rfl
    have hL : (callEnvC fd s.heap.objs.size fa).locals = s.heap.objs.size := rfl
    have hg : (callEnvC fd s.heap.objs.size fa).globals = mainGlobals := e5
    have hbl : (callEnvC fd s.heap.objs.size fa).builtins = builtinsNs := e6
    generalize callEnvC fd s.heap.objs.size fa = env at *
    have hn : s.heap.get? env.locals = none := by rw [hL]; exact get_size _
    obtain ⟨h', tk, rfl, keep⟩ := x.done
    have S1 : SR C σ { s with heap := h', toks := tk } := S.grow keep rfl rfl
    have tkp : TupKeep s.heap h' := TupKeep.of_keep keep
    have fresh : ∀ c y, env.cells.lookup y = some c → s.heap.get? c = none := fun c y e => by
      have := x.above y c (mem_of_lookup e)
      rw [hL] at this
      exact get_none (Nat.le_of_lt this)
    have F1 : FrR C env (ps.zip vs).reverse σ { s with heap := h', toks := tk } := by
      refine ⟨⟨by rw [hscope]; exact hk, hg, hbl⟩, fun y v e => ?_, ⟨_, x.toInCall.ns⟩, (S.none_of_size hn).2, (S.none_of_size hn).1, fun y c e => ⟨⟨_, x.cell y c e⟩, (S.none_of_size (fresh c y e)).2, (S.none_of_size (fresh c y e)).1⟩, fun y z c ey ez => name_of_addr x.apart (mem_of_lookup ey) (mem_of_lookup ez)⟩
      have hm := mem_of_lookup e
      rw [List.mem_reverse] at hm
      obtain ⟨u, hu, r⟩ := zip_mem V hm
      have hp : y ∈ ps := by rw [← zip_keys hxs]; exact List.mem_map_of_mem hu
      have hnd' : ((ps.zip xs).map (·.1)).Nodup := by rw [zip_keys hxs]; exact hnd
      refine ⟨(hloc y hp).2, ?_⟩
      rcases (hloc y hp).1 with q | q
      · have hkk : env.kindOf y = some .local := kind_of hscope q
        exact .inl ⟨hkk, _, u, x.toInCall.ns, bindL_get hkk _ _ hnd' hu, r.keep tkp⟩
      · have hkk : env.kindOf y = some .cell := kind_of hscope q
        obtain ⟨c, hc⟩ := Option.isSome_iff_exists.mp (hsome y q)
        refine .inr (.inl ⟨hkk, c, u, hc, ?_, r.keep tkp⟩)
        have := x.cell y c hc
        rw [bindC_get (by rw [hkk]; decide) _ _ hnd' hu] at this
        exact this
    refine h env hscope hsome (A.deeper env) _ (R.deeper env) S1 F1 _ _ ?_
    intro o f m' σ' s' p e S' F' T'
    have T : Step σ s σ' s' := by
      refine ⟨fun b o q q1 => T'.keep b o (keep b o q) q1 (by rintro rfl; rw [hn] at q; cases q) (fun y ey => by rw [fresh b y ey] at q; cases q), fun b q => ?_, T'.mono⟩
      rcases T'.dom b q with q | q
      · exact .inl q
      · cases z : s.heap.get? b with
        | none => exact .inr rfl
        | some o' => have : h'.get? b = none := q; rw [keep b o' z] at this; cases this
    cases o with
    | next => obtain rfl := e; exact hR .none _ σ' s' p S' T VR.mkNone
    | brk => exact p.elim
    | cont => exact p.elim
    | ret v => obtain ⟨y, rfl, r⟩ := e; exact hR v _ σ' s' p S' T r
end
theorem VR.handed {h : Heap} {v : V} {x : Value} (r : VR h v x) : handedIn x = true := by
  cases v with
  | obj a => rw [show x = .ref a from r]; rfl
  | dat d => obtain ⟨_, as, rd⟩ := r; cases rd <;> rfl

theorem refKey_str {es : List DictEntry} (hk : ∀ e ∈ es, ∃ x t, e.key = Value.str x t) : es.any (·.refKey) = false := by
  rw [List.any_eq_false]
  intro y hy
  obtain ⟨x, t, hkey⟩ := hk y hy
  unfold DictEntry.refKey
  rw [hkey]; simp
theorem putL_keys {name : Str} {hs : Int} {t : Tok} {v : Value} : ∀ {es : List DictEntry}, (∀ e ∈ es, ∃ x t, e.key = Value.str x t) → ∀ e ∈ putL name hs (.str name t) v es, ∃ x t, e.key = Value.str x t
  | [], _, e, he => by
    simp only [putL, List.mem_singleton] at he
    subst he; exact ⟨_, _, rfl⟩
  | e' :: r, hk, e, he => by
    unfold putL at he
    split at he
    · rcases List.mem_cons.mp he with rfl | he
      · obtain ⟨x, t, q⟩ := hk e' (.head _); exact ⟨x, t, q⟩
      · exact hk e (.tail _ he)
    · rcases List.mem_cons.mp he with rfl | he
      · exact hk _ (.head _)
      · exact putL_keys (fun e he => hk e (.tail _ he)) e he
theorem putL_length {name : Str} {hs : Int} {k v : Value} : ∀ {es : List DictEntry}, (putL name hs k v es).length ≤ es.length + 1
  | [] => by simp [putL]
  | e :: r => by
    unfold putL
    split
    · simp
    · have := putL_length (name := name) (hs := hs) (k := k) (v := v) (es := r)
      simp only [List.length_cons]; omega
theorem isStr_str (x y : Str) (t : Tok) : (Value.str x t).isStr y = (x == y) := rfl
theorem putL_find_same {name : Str} {hs : Int} {t : Tok} {v : Value} : ∀ {es : List DictEntry}, ((putL name hs (.str name t) v es).find? (·.key.isStr name)).map (·.val) = some v
  | [] => by simp [putL, isStr_str]
  | e :: r => by
    unfold putL
    split
    · rename_i h; simp [List.find?_cons, h]
    · rename_i h
      rw [List.find?_cons]
      simp only [h]
      exact putL_find_same
theorem putL_find_other {name x : Str} {hs : Int} {t : Tok} {v : Value} (hx : x ≠ name) : ∀ {es : List DictEntry}, (∀ e ∈ es, ∃ x t, e.key = Value.str x t) → ((putL name hs (.str name t) v es).find? (·.key.isStr x)).map (·.val) = (es.find? (·.key.isStr x)).map (·.val)
  | [], _ => by
    have : (name == x) = false := by simpa using fun e : name = x => hx e.symm
    simp [putL, isStr_str, this]
  | e :: r, hk => by
    unfold putL
    split
    · rename_i h
      have : e.key.isStr x = false := by
        obtain ⟨y, t', q⟩ := hk e (.head _)
        rw [q, isStr_str] at h ⊢
        have := beq_iff_eq.mp h
        subst this
        simpa using fun e : y = x => hx e.symm
      simp [List.find?_cons, this]
    · rename_i h
      rw [List.find?_cons, List.find?_cons]
      split
      · rfl
      · exact putL_find_other hx fun e he => hk e (.tail _ he)
theorem getL_of {x : Str} {es : List DictEntry} (hk : ∀ e ∈ es, ∃ x t, e.key = Value.str x t) : getL x es = some ((es.find? (·.key.isStr x)).map (·.val)) := by
  unfold getL
  cases e : es.find? (·.key.isStr x) with
  | some y => simp
  | none => simp [refKey_str hk]

/-- a class of the text whose instances are plain -/
structure PlainCls (C : Cx) (cc : Addr) : Prop where
  get : plainGet C.K cc "" = true
  dict : hasDictIn C.K cc = true
  set : findIn C.K (.ref cc) "__setattr__" = some (some (.builtin "object.__setattr__"))
  over : plainOver C.K cc = true
/-- a name that the class does not know -/
structure NoAttr (C : Cx) (cc : Addr) (x : Str) : Prop where
  no : findIn C.K (.ref cc) x = some none
  tk : takerIn C.K cc x = some none

/-- x is an instance of cc with these attributes -/
structure Inst (σ : AH) (x cc d : Addr) (fs : Vars) : Prop where
  obj : σ x = some (.inst cc d)
  att : σ d = some (.attrs fs)
theorem Inst.old {σ σ' : AH} {x cc d : Addr} {fs : Vars} (i : Inst σ x cc d fs) (h : ∀ b y, σ b = some y → σ' b = some y) : Inst σ' x cc d fs := ⟨h _ _ i.obj, h _ _ i.att⟩

section
variable {C : Cx} {n : Nat} {env : Env} {m : Vars} {σ : AH} {P : V → AH → Prop}

theorem instAt {s : Shared} {x cc d : Addr} {fs : Vars} (S : SR C σ s) (i : Inst σ x cc d fs) : ∃ es k, InstAt s.heap x (instObj cc d) cc (some (PySem.W.dictOf es k)) ∧ s.heap.get? d = some (PySem.W.dictOf es k) ∧ es.length ≤ fs.length ∧ (∀ e ∈ es, ∃ x t, e.key = Value.str x t) ∧
    ∀ x, (∀ v, fs.lookup x = some v → ∃ y, getL x es = some (some y) ∧ VR s.heap v y) ∧ (fs.lookup x = none → getL x es = some none) := by
  have h1 := (S.objs _ _ i.obj).1
  obtain ⟨es, k, ho, q⟩ := (S.objs _ _ i.att).1
  exact ⟨es, k, ⟨h1, rfl, rfl, ho⟩, ho, q⟩

theorem E_attr {value : Expr} {attr : Str} {pos : Pos} (ok : C.Ok)
    (h : Ev C n env m value σ (fun v σ1 => ∃ x cc d fs u, v = .obj x ∧ Inst σ1 x cc d fs ∧ fs.lookup attr = some u ∧ PlainCls C cc ∧ NoAttr C cc attr ∧ P u σ1))
    (he : eval (.Attribute value attr pos) env = (do
      let o ← eval value env
      standAt pos.atName
      let r ← holding [o] (getAttr o attr true)
      letTemporaryGo value o r
      pure r) := by with_unfolding_all rfl) : Ev C n env m (.Attribute value attr pos) σ P := by
  intro A s R S F E Q hQ
  refine Attribute_any_ (h A s R S F E _ ?_) he
  rintro v y σ1 s1 ⟨x, cc, d, fs, u, rfl, i, hl, hc, hna, p⟩ S1 T1 rfl
  obtain ⟨es, k, I, ho, hlen, hk, hm⟩ := instAt S1 i
  obtain ⟨y, hy, r⟩ := (hm attr).1 u hl
  have X := ok.kin.keeps S1.keep
  refine get_value X I (plainGet_of (name := "") hc.get).1 (findObj_own hc.dict hna.no rfl (by rw [lookIn_dict, hy])) r.handed ?_
  exact hQ u y σ1 _ p (S1.toks _) (T1.trans (Step.grow fun _ _ e => e)) r

/-- an attribute is stored -/
theorem wp_setAttr {A : Around} {s : Shared} {E : Value → Shared → Prop} {Q : Unit → Shared → Prop} {x cc d : Addr} {fs : Vars} {attr : Str} {v : V} {y : Value} (ok : C.Ok) (S : SR C σ s) (i : Inst σ x cc d fs) (hlen : fs.length ≤ 900) (hc : PlainCls C cc) (hna : NoAttr C cc attr) (hv : VR s.heap v y)
    (h : ∀ s', SR C (upd σ d (.attrs ((attr, v) :: fs))) s' → Step σ s (upd σ d (.attrs ((attr, v) :: fs))) s' → Q () s') : wpAny C.M A (setAttr (.ref x) attr y) Q E s := by
  obtain ⟨es, k, I, ho, hle, hk, hm⟩ := instAt S i
  have X := ok.kin.keeps S.keep
  refine set_plain X I hc.set ?_
  refine osa_open (s := { s with toks := s.toks + 1 }) X I hc.over hna.tk fun b => ?_
  obtain ⟨cd, hcd, hd'⟩ := any_some hc.dict
  refine wpAny_bind (wpAny_pure (wpAny_bind (wpAny_bind (wpAny_loadPart (s := { s with toks := s.toks + 1 }) I.at_ (wpAny_bind ((looks_clsIn (h := s.heap) X hcd) _ _ _ _ (fun _ _ e => e) ?_))))))
  rw [hd']
  refine wpAny_pure (a := some d) (wpAny_bind (wpAny_pure (wpAny_bind ?_)))
  unfold nsSet
  refine wpAny_bind (wpAny_bind (wpAny_askSetting (wpAny_pure (wpAny_bind (wpAny_mkText (wpAny_bind (wpAny_loadPart (s := { s with toks := s.toks + 1 + 1 }) ho ?_)))))))
  have hc0 : (!(es.toArray).any (·.key.isStr attr) && (es.toArray).any (·.refKey)) = false := by
    have : (es.toArray).any (·.refKey) = false := by rw [← Array.any_toList]; simpa using refKey_str hk
    rw [this, Bool.and_false]
  dsimp only
  rw [aRefKeyMayBeTheName_at, hc0]
  refine wpAny_updatePart (s := { s with toks := s.toks + 1 + 1 }) ho ?_
  have kk : ∀ b o, b ≠ d → s.heap.get? b = some o → (s.heap.update d (Obj.putName attr (PyData.keyHash C.w.params attr) (.str attr (s.toks + 1)) y)).get? b = some o := fun b o nb e => (Heap.get?_update_other _ _ (Ne.symm nb)).trans e
  have D' : (s.heap.update d (Obj.putName attr (PyData.keyHash C.w.params attr) (.str attr (s.toks + 1)) y)).get? d = some (PySem.W.dictOf (putL attr (PyData.keyHash C.w.params attr) (.str attr (s.toks + 1)) y es) (putN attr es k)) := by
    have := Heap.get?_update_self (Obj.putName attr (PyData.keyHash C.w.params attr) (.str attr (s.toks + 1)) y) ho (by rw [putName_dict]; rfl)
    rw [putName_dict] at this; exact this
  have hl1 : (putL attr (PyData.keyHash C.w.params attr) (.str attr (s.toks + 1)) y es).length ≤ es.length + 1 := putL_length
  refine wpAny_bind (wpAny_lookBehind (s := { s with heap := s.heap.update d (Obj.putName attr (PyData.keyHash C.w.params attr) (.str attr (s.toks + 1)) y), toks := s.toks + 1 + 1 }) D' (pastItsLine_dict (by rw [List.size_toArray, sizeLine_eq]; omega)) ?_)
  refine wpAny_pure ?_
  have hx : TupKeep s.heap (s.heap.update d (Obj.putName attr (PyData.keyHash C.w.params attr) (.str attr (s.toks + 1)) y)) → ObjR C.w (s.heap.update d (Obj.putName attr (PyData.keyHash C.w.params attr) (.str attr (s.toks + 1)) y)) d (.attrs ((attr, v) :: fs)) := by
    intro tk
    refine ⟨_, _, D', ?_, putL_keys hk, fun z => ?_⟩
    · simp only [List.length_cons]; omega
    · rw [List.lookup_cons, getL_of (putL_keys hk)]
      have hmz := hm z
      rw [getL_of hk] at hmz
      cases hb : z == attr with
      | true =>
        obtain rfl := beq_iff_eq.mp hb
        exact ⟨fun v' e => ⟨y, by rw [putL_find_same], by cases e; exact hv.keep tk⟩, fun e => (by cases e)⟩
      | false =>
        have nz : z ≠ attr := by simpa using hb
        rw [putL_find_other nz hk]
        exact ⟨fun v' e => let ⟨y', hy', r'⟩ := hmz.1 v' e; ⟨y', hy', r'.keep tk⟩, hmz.2⟩
  obtain ⟨S', T'⟩ := S.set (s' := { s with heap := s.heap.update d (Obj.putName attr (PyData.keyHash C.w.params attr) (.str attr (s.toks + 1)) y), toks := s.toks + 1 + 1 }) (y := .attrs ((attr, v) :: fs)) i.att kk hx rfl rfl
  exact h _ S' T'

theorem X_setattr {o value : Expr} {attr : Str} {p' pos : Pos} {rest : List Stmt} {P : Out → Vars → AH → Prop} (ok : C.Ok)
    (h : Ev C n env m value σ (fun v σ1 => Ev C n env m o σ1 (fun ov σ2 => ∃ x cc d fs, ov = .obj x ∧ Inst σ2 x cc d fs ∧ fs.length ≤ 900 ∧ PlainCls C cc ∧ NoAttr C cc attr ∧ Ex C n env m rest (upd σ2 d (.attrs ((attr, v) :: fs))) P)))
    (hs : isComp value = false := by rfl) : Ex C n env m (.Assign [.Attribute o attr p'] value pos :: rest) σ P := by
  refine X_cons fun A s R S F E Q hQ => plainObj_wpAny_Assign_Attribute (h A s R S F E _ ?_) (swap_of hs)
  intro v y σ1 s1 h2 S1 T1 V1
  refine h2 A s1 R S1 (F.step S T1) E _ ?_
  rintro ov z σ2 s2 ⟨x, cc, d, fs, rfl, i, hlen, hc, hna, h3⟩ S2 T2 rfl
  refine wp_setAttr ok S2 i hlen hc hna (V1.keep (T2.tup S1)) fun s3 S3 T3 => ?_
  have T13 := (T1.trans T2).trans T3
  exact hQ .next _ m _ s3 h3 rfl S3 (F.step S T13) T13.toL

/-- a method of a class of the text -/
structure MethIs (C : Cx) (cc : Addr) (name : Str) (f : Addr) : Prop where
  find : findIn C.K (.ref cc) name = some (some (.ref f))
  fn : typeIn C.K (.ref f) = some (.type "function")
  keep : keepIn C.K (.ref f) = true

theorem E_meth {o : Expr} {name : Str} {apos pos : Pos} {args : List Expr} {pl : Sem Bool} (ok : C.Ok)
    (h : Ev C n env m o σ (fun v σ1 => ∃ x cc d fs f, v = .obj x ∧ Inst σ1 x cc d fs ∧ fs.lookup name = none ∧ PlainCls C cc ∧ MethIs C cc name f ∧ Evs C n env m pos args σ1 (fun vs σ2 => Fn C n f (.obj x :: vs) σ2 P)))
    (he : eval (.Call (.Attribute o name apos) args [] pos) env = (do
      let ov ← eval o env
      standAt apos.atName
      let (f, first) ← holding [ov] (getMethod ov name pl)
      callWith pos f first (backTo pos (starEach args env)) []) := by rfl)
    (hp : args = [] ∨ (∃ e rest, args = e :: rest ∧ starEach (e :: rest) env = (false, eval e env) :: starEach rest env ∧ (backTo pos (starEach rest env)).any (·.1) = false) := by first | exact Or.inl rfl | exact Or.inr ⟨_, _, rfl, rfl, rfl⟩) :
    Ev C n env m (.Call (.Attribute o name apos) args [] pos) σ P := by
  intro A s R S F E Q hQ
  refine MethodCall_ (pl := pl) (h A s R S F E _ ?_) he
  rintro v y σ1 s1 ⟨x, cc, d, fs, f, rfl, i, hl, hc, hm, h2⟩ S1 T1 rfl
  obtain ⟨es, k, I, ho, hlen, hk, hmm⟩ := instAt S1 i
  have X := ok.kin.keeps S1.keep
  refine method_fn X I (plainGet_of (name := "") hc.get).1 (plainGet_of (name := "") hc.get).2 hm.find hm.fn ?_ ?_
  · show (lookIn name (PySem.W.dictOf es k)).map (·.isSome) = some false
    rw [lookIn_dict, (hmm name).2 hl]; rfl
  · dsimp only
    have fin : ∀ vs xs σ2 s2, Fn C n f (.obj x :: vs) σ2 P → SR C σ2 s2 → Step σ1 s1 σ2 s2 → VRs s2.heap vs xs → C.K.In s2.heap ∧ wpAny C.M A (call (.ref f) ([.ref x] ++ xs) []) Q E s2 := by
      intro vs xs σ2 s2 h3 S2 T2 V2
      refine ⟨ok.kin.keeps S2.keep, wpAny_call (h3 A s2 (.ref x :: xs) R S2 (.cons rfl V2) _ ?_)⟩
      intro v x σ3 s3 p S3 T3 V3
      exact hQ v x σ3 s3 p S3 ((T1.trans T2).trans T3) V3
    have h2' := h2 A s1 R S1 (F.step S T1) E _ fun vs xs σ2 s2 h3 S2 T2 V2 => fin vs xs σ2 s2 h3 S2 T2 V2
    rcases hp with rfl | ⟨e, rest, rfl, h4, h5⟩
    · exact callWith_of rfl (keeps_K hm.keep) (evalArgs_spl0 h2')
    · exact callWith_K X hm.keep h2' h4 h5

theorem Room.make {A : Around} {cc : Addr} {xs : List Value} (R : Room (n + 1) A) : Room n (A.under (.builtin "type.__call__" ⟨.ref cc :: xs, []⟩)) := by
  refine ⟨R.1, ?_, ?_⟩
  · have := R.2.1
    show A.depth + 1 + 2 * n ≤ 900
    omega
  · have := R.2.2
    show A.units + 1 + 20 * n + 200 ≤ 9000
    omega

structure GlobC (C : Cx) (x : Str) (cc fI : Addr) : Prop where
  ns : nsIn C.K mainGlobals x = some (some (.ref cc))
  nd : (x == ("__debug__" : Str)) = false
  makes : makesIn C.K cc = true
  init : findIn C.K (.ref cc) "__init__" = some (some (.ref fI))
  fn : typeIn C.K (.ref fI) = some (.type "function")
  keep : keepIn C.K (.ref cc) = true

/-- a new instance -/
theorem E_new {x : Str} {np pos : Pos} {args : List Expr} {cc fI : Addr} (ok : C.Ok) (g : GlobC C x cc fI) (hk : env.kindOf x = some .globalImplicit)
    (h : Evs C (n + 1) env m pos args σ (fun vs σ1 => ∀ a d, a ≠ d → σ1 a = none → σ1 d = none → Fn C n fI (.obj a :: vs) (upd (upd σ1 d (.attrs [])) a (.inst cc d)) (fun v σ2 => v = .none ∧ P (.obj a) σ2)))
    (hp : args = [] ∨ (∃ e rest, args = e :: rest ∧ starEach (e :: rest) env = (false, eval e env) :: starEach rest env ∧ (backTo pos (starEach rest env)).any (·.1) = false) := by first | exact Or.inl rfl | exact Or.inr ⟨_, _, rfl, rfl, rfl⟩) :
    Ev C (n + 1) env m (.Call (.Name x np) args [] pos) σ P := by
  intro A s R S F E Q hQ
  refine wpAny_Call_ofName (wp_glob ok S F hk g.nd g.ns ?_)
  show wpAny _ _ (callWith pos (.ref cc) [] (backTo pos (starEach args env)) []) _ _ _
  have fin : ∀ vs xs σ1 s1, (∀ a d, a ≠ d → σ1 a = none → σ1 d = none → Fn C n fI (.obj a :: vs) (upd (upd σ1 d (.attrs [])) a (.inst cc d)) (fun v σ2 => v = .none ∧ P (.obj a) σ2)) → SR C σ1 s1 → Step σ s σ1 s1 → VRs s1.heap vs xs →
      C.K.In s1.heap ∧ wpAny C.M A (call (.ref cc) ([] ++ xs) []) Q E s1 := by
    intro vs xs σ1 s1 h2 S1 T1 V1
    have X := ok.kin.keeps S1.keep
    refine ⟨X, wpAny_call ?_⟩
    have n1 : s1.heap.get? s1.heap.objs.size = none := get_size _
    obtain ⟨q1, S2, T2⟩ := S1.alloc ok (o := emptyDict) (x := .attrs []) rfl ⟨[], 0, Heap.get?_push_size _ rfl, Nat.le_refl _, (fun e he => by cases he), fun z => ⟨fun v e => (by cases e), fun _ => rfl⟩⟩
    have V2 := V1.keep (T2.tup S1)
    obtain ⟨q2, S3, T3⟩ := S2.alloc ok (o := instObj cc s1.heap.objs.size) (x := .inst cc s1.heap.objs.size) rfl (Heap.get?_push_size _ rfl)
    have V3 := V2.keep (T3.tup S2)
    have e1 : ({ s1 with heap := s1.heap.push emptyDict } : Shared).heap.objs.size = s1.heap.objs.size + 1 := Heap.size_push ..
    rw [e1] at q2 S3 T3
    have ha : σ1 (s1.heap.objs.size + 1) = none := by
      rw [upd_other (Nat.succ_ne_self _)] at q2; exact q2
    have h3 := h2 (s1.heap.objs.size + 1) s1.heap.objs.size (Nat.succ_ne_self _) ha q1
    obtain ⟨hh, gg, dd, tt, oo⟩ := s1
    refine make_core (makes_of X g.makes) (looks_findIn X g.init) (fun self => bind_fn X self g.fn) (.inl rfl) ?_
    refine h3 _ _ (.ref (hh.objs.size + 1) :: xs) R.make S3 (.cons rfl V3) _ ?_
    rintro v x σ4 s4 ⟨rfl, p⟩ S4 T4 V4
    obtain ⟨_, as, rd⟩ := V4
    cases rd
    refine ⟨rfl, ?_⟩
    exact hQ _ _ σ4 s4 p S4 (((T1.trans T2).trans T3).trans T4) rfl
  have h2' := h A s R S F E _ fun vs xs σ2 s2 h3 S2 T2 V2 => fin vs xs σ2 s2 h3 S2 T2 V2
  rcases hp with rfl | ⟨e, rest, rfl, h4, h5⟩
  · exact callWith_of rfl (keeps_K g.keep) (evalArgs_spl0 h2')
  · exact callWith_K (ok.kin.keeps S.keep) g.keep h2' h4 h5
end
theorem size_line {n : Nat} (h : n ≤ 100000) : n ≤ sizeLine := by rw [sizeLine_eq]; omega

-- dicts as lists of pairs
noncomputable def kvLook {κ : Type} [DecidableEq κ] (l : List (κ × V)) (k : κ) : Option V := (l.find? fun p => p.1 = k).map (·.2)
noncomputable def kvPut {κ : Type} [DecidableEq κ] (l : List (κ × V)) (k : κ) (v : V) : List (κ × V) := if l.any (fun p => p.1 = k) then l.map (fun p => if p.1 = k then (p.1, v) else p) else l ++ [(k, v)]
theorem KVs.look {κ : Type} [DecidableEq κ] {h : Heap} {vs : List (κ × V)} {ys : List (κ × Value)} (r : KVs h vs ys) (k : κ) :
    (∀ v, kvLook vs k = some v → ∃ y, valueAt ys k = some y ∧ VR h v y) ∧ (kvLook vs k = none → valueAt ys k = none) := by
  induction r with
  | nil => exact ⟨fun v e => by simp [kvLook] at e, fun _ => rfl⟩
  | @cons k' v' x' vs' xs' a _ ih =>
    unfold kvLook valueAt at *
    by_cases e : k' = k
    · subst e
      refine ⟨fun v hv => ?_, fun hv => by simp at hv⟩
      simp at hv; subst hv
      exact ⟨x', by simp, a⟩
    · simp only [List.find?_cons, decide_eq_false e]
      exact ih
theorem KVs.put {κ : Type} [DecidableEq κ] {h : Heap} {vs : List (κ × V)} {ys : List (κ × Value)} (r : KVs h vs ys) (k : κ) {v : V} {y : Value} (a : VR h v y) : KVs h (kvPut vs k v) (stored ys k y) := by
  have hany : vs.any (fun p => p.1 = k) = ys.any (fun p => p.1 = k) := by
    induction r with
    | nil => rfl
    | cons _ _ ih => simp only [List.any_cons, ih]
  have h1 : KVs h (vs.map (fun p => if p.1 = k then (p.1, v) else p)) (ys.map (fun p => if p.1 = k then (p.1, y) else p)) := by
    clear hany
    induction r with
    | nil => exact .nil
    | @cons k' v' x' vs' xs' b _ ih =>
      simp only [List.map_cons]
      by_cases e : k' = k
      · simp only [e, if_true]; exact .cons a ih
      · simp only [e, if_false]; exact .cons b ih
  have h2 : KVs h (vs ++ [(k, v)]) (ys ++ [(k, y)]) := by
    clear hany h1
    induction r with
    | nil => exact .cons a .nil
    | cons b _ ih => exact .cons b ih
  unfold kvPut stored
  rw [hany]
  split
  · exact h1
  · exact h2
theorem KVT.look {h : Heap} {vs : List (List Int × V)} {ys : List (List Int × Addr × Value)} (r : KVT h vs ys) (k : List Int) :
    (∀ v, kvLook vs k = some v → ∃ p, atKey ys k = some p ∧ VR h v p.2) ∧ (kvLook vs k = none → atKey ys k = none) := by
  induction r with
  | nil => exact ⟨fun v e => by simp [kvLook] at e, fun _ => rfl⟩
  | @cons k' ad v' x' vs' xs' a _ ih =>
    unfold kvLook atKey at *
    by_cases e : k' = k
    · subst e
      refine ⟨fun v hv => ?_, fun hv => by simp at hv⟩
      simp at hv; subst hv
      exact ⟨(ad, x'), by simp, a⟩
    · simp only [List.find?_cons, decide_eq_false e]
      exact ih
theorem KVT.put {h : Heap} {vs : List (List Int × V)} {ys : List (List Int × Addr × Value)} (r : KVT h vs ys) (k : List Int) (ad : Addr) {v : V} {y : Value} (hk : kvLook vs k = none) (a : VR h v y) : KVT h (vs ++ [(k, v)]) (storedH ys k ad y) := by
  rw [storedH_new ((r.look k).2 hk)]
  clear hk
  induction r with
  | nil => exact .cons a .nil
  | cons b _ ih => exact .cons b ih

section
variable {C : Cx} {n : Nat} {env : Env} {m : Vars} {σ : AH} {P : V → AH → Prop}

-- x[i]
theorem E_sub {value slice : Expr} {pos : Pos} (h : Ev C n env m value σ (fun v σ1 => Ev C n env m slice σ1 (fun i σ2 => Op2 C n (subscriptTail value slice) v i σ2 P))) : Ev C n env m (.Subscript value slice pos) σ P := by
  intro A s R S F E Q hQ
  refine Subscript_ (h A s R S F E _ ?_)
  intro v x σ1 s1 h2 S1 T1 V1
  refine h2 A s1 R S1 (F.step S T1) E _ ?_
  intro u y σ2 s2 h3 S2 T2 V2
  refine h3 x y A s2 R S2 ⟨V1.keep (T2.tup S1), V2⟩ E _ ?_
  intro w z σ3 s3 p S3 T3 V3
  exact hQ w z σ3 s3 p S3 ((T1.trans T2).trans T3) V3
theorem op_item_list {value slice : Expr} {l : Addr} {vs : List V} {k : Nat} {v : V} (e : σ l = some (.list vs)) (hk : k < 1000000) (hv : vs[k]? = some v) (h : P v σ)
    (hs : isSl slice = false := by rfl) : Op2 C n (subscriptTail value slice) (.obj l) (.int (k : Int)) σ P := by
  intro x y A s R S F E Q hQ
  obtain ⟨rfl, hy⟩ := F
  obtain ⟨t, rfl⟩ := hy.intT
  obtain ⟨xs, n', hl, r⟩ := (S.objs l _ e).1
  obtain ⟨z, hz, rz⟩ := r.at hv
  exact tail_any hl.isList.typeIs slot_list_getitem.lookup (wpAny_getItem_list hl.isList (by omega) (by omega) (by rw [Int.toNat_natCast]; exact hz) (hQ v z σ s h S (Step.refl _ _) rz)) (sub_of hs _ _)
theorem op_item_tup {value slice : Expr} {ds : List PyData} {k : Nat} {d : PyData} (hk : k < 1000000) (hv : ds[k]? = some d) (h : P (.dat d) σ)
    (hs : isSl slice = false := by rfl) : Op2 C n (subscriptTail value slice) (.tup ds) (.int (k : Int)) σ P := by
  intro x y A s R S F E Q hQ
  obtain ⟨hx, hy⟩ := F
  obtain ⟨t, rfl⟩ := hy.intT
  obtain ⟨a, xs, rfl, ht, r⟩ := hx.tupT
  obtain ⟨z, hz, rz⟩ := r.at (i := k) (v := .dat d) (by rw [List.getElem?_map, hv]; rfl)
  have hlt : k < xs.size := by
    rcases Nat.lt_or_ge k xs.size with q | q
    · exact q
    · rw [Array.getElem?_eq_none q] at hz; cases hz
  have hidx : seqIndex? (k : Int) xs.size = some k := by
    unfold seqIndex?
    have h1 : ¬ ((k : Int) < 0) := by omega
    simp only [h1, if_false]
    have h2 : (0 ≤ (k : Int)) ∧ ((k : Int) < xs.size) := ⟨by omega, by omega⟩
    simp [h2]
  exact tail_any (ops := [.ref a, .int (k : Int) t]) ht.typeIs slot_tuple_getitem.lookup (PyProof.Rows.getItem_tuple ht (by omega) (by omega) hidx hz (hQ _ z σ s h S (Step.refl _ _) rz)) (sub_of hs _ _)
theorem op_item_dI {value slice : Expr} {d : Addr} {kvs : List (Int × V)} {k : Int} {v : V} (e : σ d = some (.dI kvs)) (hv : kvLook kvs k = some v) (h : P v σ)
    (hs : isSl slice = false := by rfl) : Op2 C n (subscriptTail value slice) (.obj d) (.int k) σ P := by
  intro x y A s R S F E Q hQ
  obtain ⟨rfl, hy⟩ := F
  obtain ⟨t, rfl⟩ := hy.intT
  obtain ⟨ys, hd, r⟩ := (S.objs d _ e).1
  obtain ⟨z, hz, rz⟩ := (r.look k).1 v hv
  exact tail_any hd.typeIs slot_dict_getitem.lookup (wpAny_getItem_of (intKind_is pw C.w k t) hd.mapOf hz (tokq S hQ h rz)) (sub_of hs _ _)
theorem ints_key {s : Heap} {w : World} : ∀ {ks : List Int} {xs : List Value}, VRs s (dats (ks.map PyData.int)) xs → ItemsAre (intKind pw w) ks xs
  | [], _, .nil => .nil
  | k :: ks, _, .cons a r => by
    obtain ⟨t, rfl⟩ := VR.intT a
    exact .cons (intKind_is pw w k t) (ints_key r)
theorem tup_key {s : Heap} {w : World} {ks : List Int} {x : Value} (r : VR s (.tup (ks.map PyData.int)) x) : ∃ a, x = .ref a ∧ IsTupleKey (intKind pw w) s ks a := by
  obtain ⟨a, xs, rfl, ⟨o, ho, hc, k, hd⟩, rs⟩ := r.tupT
  exact ⟨a, rfl, o, xs, k, ho, hc, hd, ints_key rs⟩
theorem Room.key {A : Around} (R : Room n A) : (tKind C.w).room A.in1 := by
  show A.units + 1 < cLine
  have := R.units
  omega
theorem op_item_dT {value slice : Expr} {d : Addr} {kvs : List (List Int × V)} {k : List Int} {v : V} (e : σ d = some (.dT kvs)) (hv : kvLook kvs k = some v) (h : P v σ)
    (hs : isSl slice = false := by rfl) : Op2 C n (subscriptTail value slice) (.obj d) (.tup (k.map PyData.int)) σ P := by
  intro x y A s R S F E Q hQ
  obtain ⟨rfl, hy⟩ := F
  obtain ⟨a, rfl, hkey⟩ := tup_key (w := C.w) hy
  obtain ⟨ys, hd, r⟩ := (S.objs d _ e).1
  obtain ⟨z, hz, rz⟩ := (r.look k).1 v hv
  exact tail_any hd.typeIs slot_dict_getitem.lookup (wpAny_getItem_heap R.key hkey hd hz (tokq S hQ h rz)) (sub_of hs _ _)

-- x[a:b]
theorem VR.part {h : Heap} {i : Int} {x : Value} (r : VR h (.int i) x) : IsPart x (some i) := by
  obtain ⟨t, rfl⟩ := r.intT; exact .int i t
theorem pick_upto {xs : Array Value} {b : Nat} : (slicePick xs none (some (b : Int)) none).toList = xs.toList.take b := by rw [slicePick_upto']
theorem pick_from {xs : Array Value} {b : Nat} : (slicePick xs (some (b : Int)) none none).toList = xs.toList.drop b := by rw [slicePick_from']
theorem SR.new {C : Cx} (ok : C.Ok) {σ : AH} {s s' : Shared} (S : SR C σ s) {a : Addr} {x : AObj} (hn : s.heap.get? a = none) (h3 : 3 < a) (k : ∀ b o, s.heap.get? b = some o → s'.heap.get? b = some o) (hg : s'.gens = s.gens) (ho : s'.os = s.os) (hx : ObjR C.w s'.heap a x) :
    σ a = none ∧ SR C (upd σ a x) s' ∧ Step σ s (upd σ a x) s' := by
  obtain ⟨h1, h2⟩ := S.none_of_size hn
  have S2 : SR C σ s' := S.grow k hg ho
  refine ⟨h1, ⟨S2.keep, S2.gens, S2.os, fun b y e => ?_⟩, ⟨fun b o' e _ => k b o' e, fun b e => ?_, fun b e => ?_⟩⟩
  · by_cases ha : b = a
    · subst ha
      rw [upd_same] at e; cases e
      exact ⟨hx, h2, by intro q; rw [q] at h3; exact absurd h3 (by decide)⟩
    · rw [upd_other ha] at e; exact S2.objs b y e
  · by_cases ha : b = a
    · subst ha; exact .inr hn
    · rw [upd_other ha] at e; exact .inl e
  · by_cases ha : b = a
    · subst ha; rw [upd_same]; exact Option.some_ne_none _
    · rw [upd_other ha]; exact e
theorem slice_end {s : Shared} {Q : Value → Shared → Prop} (ok : C.Ok) (S : SR C σ s) {vl vu : Value} {xs : Array Value} {vs : List V} (r : VRs s.heap vs xs.toList)
    (h : ∀ a s', σ a = none → SR C (upd σ a (.list vs)) s' → Step σ s (upd σ a (.list vs)) s' → Q (.ref a) s') :
    Q (.ref (s.heap.objs.size + 1)) { s with heap := (s.heap.push { cls := .type "slice", data := .fields #[vl, vu, .none] }).push { cls := .type "list", data := .seq xs } } := by
  have k : ∀ b o, s.heap.get? b = some o → ((s.heap.push { cls := .type "slice", data := .fields #[vl, vu, .none] }).push { cls := .type "list", data := .seq xs }).get? b = some o := fun b o e => push_keep _ _ _ (push_keep _ _ _ e)
  have hsz : (s.heap.push { cls := .type "slice", data := .fields #[vl, vu, .none] }).objs.size = s.heap.objs.size + 1 := Heap.size_push ..
  have hb := S.big ok
  obtain ⟨h1, h2, h3⟩ := S.new ok (s' := { s with heap := (s.heap.push { cls := .type "slice", data := .fields #[vl, vu, .none] }).push { cls := .type "list", data := .seq xs } }) (a := s.heap.objs.size + 1) (x := .list vs) (get_none (Nat.le_succ _)) (Nat.lt_succ_of_lt hb) k rfl rfl
    ⟨xs, 0, by rw [← hsz]; exact IsL.new _ _, r.keep (TupKeep.of_keep k)⟩
  exact h _ _ h1 h2 h3
/-- v[:e] -/
theorem E_upto {value e : Expr} {p pos : Pos} (ok : C.Ok) (h : Ev C n env m value σ (fun v σ1 => Ev C n env m e σ1 (fun u σ2 => ∃ (l : Addr) (vs : List V) (b : Nat), v = .obj l ∧ u = .int (b : Int) ∧ σ2 l = some (.list vs) ∧ vs.length ≤ 100000 ∧ ∀ a, σ2 a = none → P (.obj a) (upd σ2 a (.list (vs.take b))))))
    (ht : ∀ o r, letTemporaryGo value o r = pure () := by intro _ _; rfl) : Ev C n env m (.Subscript value (.Slice none (some e) none p) pos) σ P := by
  intro A s R S F E Q hQ
  refine wpAny_Subscript_list_slice (h A s R S F E _ ?_) ht
  intro v x σ1 s1 h2 S1 T1 V1
  rw [evalPart_none]
  refine wpAny_pure ?_
  rw [evalPart_some]
  refine h2 A s1 R S1 (F.step S T1) E _ ?_
  rintro u y σ2 s2 ⟨l, vs, b, rfl, rfl, el, hlen, p⟩ S2 T2 V2
  obtain ⟨xs, k, hl, r⟩ := (S2.objs l _ el).1
  have hxl := r.length
  refine ⟨l, xs, none, some (b : Int), V1, hl.isList, size_line (by rw [← Array.length_toList]; omega), .none, V2.part, ?_⟩
  exact slice_end ok S2 (vs := vs.take b) (by rw [pick_upto]; exact r.take b) fun a s3 h1 S3 T3 => hQ _ _ _ s3 (p a h1) S3 ((T1.trans T2).trans T3) rfl
/-- v[e:] -/
theorem E_from {value e : Expr} {p pos : Pos} (ok : C.Ok) (h : Ev C n env m value σ (fun v σ1 => Ev C n env m e σ1 (fun u σ2 => ∃ (l : Addr) (vs : List V) (b : Nat), v = .obj l ∧ u = .int (b : Int) ∧ σ2 l = some (.list vs) ∧ vs.length ≤ 100000 ∧ ∀ a, σ2 a = none → P (.obj a) (upd σ2 a (.list (vs.drop b))))))
    (ht : ∀ o r, letTemporaryGo value o r = pure () := by intro _ _; rfl) : Ev C n env m (.Subscript value (.Slice (some e) none none p) pos) σ P := by
  intro A s R S F E Q hQ
  refine wpAny_Subscript_list_slice (h A s R S F E _ ?_) ht
  intro v x σ1 s1 h2 S1 T1 V1
  rw [evalPart_some]
  refine h2 A s1 R S1 (F.step S T1) E _ ?_
  rintro u y σ2 s2 ⟨l, vs, b, rfl, rfl, el, hlen, p⟩ S2 T2 V2
  rw [evalPart_none]
  refine wpAny_pure ?_
  obtain ⟨xs, k, hl, r⟩ := (S2.objs l _ el).1
  have hxl := r.length
  refine ⟨l, xs, some (b : Int), none, V1, hl.isList, size_line (by rw [← Array.length_toList]; omega), V2.part, .none, ?_⟩
  exact slice_end ok S2 (vs := vs.drop b) (by rw [pick_from]; exact r.drop b) fun a s3 h1 S3 T3 => hQ _ _ _ s3 (p a h1) S3 ((T1.trans T2).trans T3) rfl
/-- v[-1:] -/
theorem E_last {value e : Expr} {p pos : Pos} (ok : C.Ok) (h : Ev C n env m value σ (fun v σ1 => Ev C n env m e σ1 (fun u σ2 => ∃ l vs, v = .obj l ∧ u = .int (-1) ∧ σ2 l = some (.list vs) ∧ vs.length ≤ 100000 ∧ ∀ a, σ2 a = none → P (.obj a) (upd σ2 a (.list (vs.drop (vs.length - 1)))))))
    (ht : ∀ o r, letTemporaryGo value o r = pure () := by intro _ _; rfl) : Ev C n env m (.Subscript value (.Slice (some e) none none p) pos) σ P := by
  intro A s R S F E Q hQ
  refine wpAny_Subscript_list_slice (h A s R S F E _ ?_) ht
  intro v x σ1 s1 h2 S1 T1 V1
  rw [evalPart_some]
  refine h2 A s1 R S1 (F.step S T1) E _ ?_
  rintro u y σ2 s2 ⟨l, vs, rfl, rfl, el, hlen, p⟩ S2 T2 V2
  rw [evalPart_none]
  refine wpAny_pure ?_
  obtain ⟨xs, k, hl, r⟩ := (S2.objs l _ el).1
  have hxl := r.length
  refine ⟨l, xs, some (-1), none, V1, hl.isList, size_line (by rw [← Array.length_toList]; omega), V2.part, .none, ?_⟩
  exact slice_end ok S2 (vs := vs.drop (vs.length - 1)) (by
    have := slicePick_last xs 1 (by omega)
    rw [show (-(1 : Nat) : Int) = -1 from rfl] at this
    rw [this]
    have e : xs.size = vs.length := by rw [← Array.length_toList]; omega
    rw [e]
    exact r.drop _) fun a s3 h1 S3 T3 => hQ _ _ _ s3 (p a h1) S3 ((T1.trans T2).trans T3) rfl
/-- script[:e], the script a list of the claim's own -/
theorem E_script {value e : Expr} {p pos : Pos} (ok : C.Ok) {l : Addr} {xs : List Value} {ns : List Int} (hl : C.h₀.IsList l xs.toArray) (hi : IntsAre xs ns) (hlen : ns.length ≤ 100000)
    (h : Ev C n env m value σ (fun v σ1 => v = .obj l ∧ Ev C n env m e σ1 (fun u σ2 => ∃ (b : Nat), u = .int (b : Int) ∧ ∀ a, σ2 a = none → P (.obj a) (upd σ2 a (.list ((ns.take b).map V.int))))))
    (ht : ∀ o r, letTemporaryGo value o r = pure () := by intro _ _; rfl) : Ev C n env m (.Subscript value (.Slice none (some e) none p) pos) σ P := by
  intro A s R S F E Q hQ
  refine wpAny_Subscript_list_slice (h A s R S F E _ ?_) ht
  rintro v x σ1 s1 ⟨rfl, h2⟩ S1 T1 V1
  rw [evalPart_none]
  refine wpAny_pure ?_
  rw [evalPart_some]
  refine h2 A s1 R S1 (F.step S T1) E _ ?_
  rintro u y σ2 s2 ⟨b, rfl, p⟩ S2 T2 V2
  have r : ∀ {xs : List Value} {ns : List Int}, IntsAre xs ns → VRs s2.heap (ns.map V.int) xs := by
    intro xs ns q
    induction q with
    | nil => exact .nil
    | cons n t _ ih => exact .cons (VR.mkInt _ _) ih
  have hl2 : s2.heap.IsList l xs.toArray := by obtain ⟨o, ho, q⟩ := hl; exact ⟨o, S2.keep _ _ ho, q⟩
  have hxl := hi.length
  refine ⟨l, xs.toArray, none, some (b : Int), V1, hl2, size_line (by rw [List.size_toArray]; omega), .none, V2.part, ?_⟩
  refine slice_end ok S2 (vs := (ns.take b).map V.int) ?_ fun a s3 h1 S3 T3 => hQ _ _ _ s3 (p a h1) S3 ((T1.trans T2).trans T3) rfl
  rw [pick_upto]
  rw [List.map_take]
  exact (r hi).take b
end
section
variable {C : Cx} {n : Nat} {env : Env} {m : Vars} {σ : AH} {P : V → AH → Prop}

-- methods of lists
theorem size_of {h : Heap} {vs : List V} {xs : Array Value} (r : VRs h vs xs.toList) : xs.size = vs.length := by rw [← Array.length_toList, r.length]

theorem E_append {o e : Expr} {apos pos : Pos} (ok : C.Ok)
    (h : Ev C n env m o σ (fun v σ1 => ∃ l, v = .obj l ∧ (∃ vs, σ1 l = some (.list vs)) ∧ Ev C n env m e σ1 (fun u σ2 => ∃ vs, σ2 l = some (.list vs) ∧ vs.length ≤ 100000 ∧ P .none (upd σ2 l (.list (vs ++ [u]))))))
    (hbase : isCall o = false := by rfl) (hline : (apos.endLine == pos.line) = true := by rfl) (htrees : isStar e = false := by rfl) :
    Ev C n env m (.Call (.Attribute o ("append" : Str) apos) [e] [] pos) σ P := by
  intro A s R S F E Q hQ
  refine wpAny_Call_method1_late (base_of hbase) hline (by rw [star_cons htrees]; rfl) (h A s R S F E _ ?_)
  rintro v x σ1 s1 ⟨l, rfl, ⟨vs0, e0⟩, h2⟩ S1 T1 rfl
  obtain ⟨xs0, k0, hl0, _⟩ := (S1.objs l _ e0).1
  refine ⟨"list", "list.append", PySem.F.plainAttrs_list, PySem.F.slot_list_append, PySem.F.type_list_append, ⟨_, hl0, rfl⟩, (fun a q => by cases q; exact ⟨_, hl0, rfl⟩), ?_⟩
  refine PySem.P.append_list (h2 A s1 R S1 (F.step S T1) E _ ?_)
  rintro u y σ2 s2 ⟨vs, el, hlen, p⟩ S2 T2 V2
  obtain ⟨xs, k, hl, r⟩ := (S2.objs l _ el).1
  refine ⟨xs, k, size_line (by rw [size_of r]; exact hlen), hl, ?_⟩
  have kk : ∀ b o, b ≠ l → s2.heap.get? b = some o → (s2.heap.update l (Obj.mapSeq fun xs => xs.push y)).get? b = some o := fun b o nb q => (Heap.get?_update_other _ _ (Ne.symm nb)).trans q
  have hx : TupKeep s2.heap (s2.heap.update l (Obj.mapSeq fun xs => xs.push y)) → ObjR C.w (s2.heap.update l (Obj.mapSeq fun xs => xs.push y)) l (.list (vs ++ [u])) := fun tk => ⟨_, _, IsL.update hl _, by rw [Array.toList_push]; exact (r.keep tk).append (VRs.one (V2.keep tk))⟩
  obtain ⟨S3, T3⟩ := S2.set (s' := { s2 with heap := s2.heap.update l (Obj.mapSeq fun xs => xs.push y) }) el kk hx rfl rfl
  exact hQ _ _ _ _ p S3 ((T1.trans T2).trans T3) VR.mkNone

theorem E_reverse {o : Expr} {apos pos : Pos} (ok : C.Ok)
    (h : Ev C n env m o σ (fun v σ1 => ∃ l vs, v = .obj l ∧ σ1 l = some (.list vs) ∧ vs.length ≤ 100000 ∧ P .none (upd σ1 l (.list vs.reverse))))
    (hbase : isCall o = false := by rfl) (hline : (apos.endLine == pos.line) = true := by rfl) :
    Ev C n env m (.Call (.Attribute o ("reverse" : Str) apos) [] [] pos) σ P := by
  intro A s R S F E Q hQ
  refine wpAny_Call_method0_late (base_of hbase) hline (h A s R S F E _ ?_)
  rintro v x σ1 s1 ⟨l, vs, rfl, el, hlen, p⟩ S1 T1 rfl
  obtain ⟨xs, k, hl, r⟩ := (S1.objs l _ el).1
  refine ⟨"list", "list.reverse", PySem.F.plainAttrs_list, PySem.F.slot_list_reverse, PySem.F.type_list_reverse, ⟨_, hl, rfl⟩, (fun a q => by cases q; exact ⟨_, hl, rfl⟩), ?_⟩
  refine PySem.P.reverse_list hl ?_ (size_line (by rw [size_of r]; exact hlen))
  have kk : ∀ b o, b ≠ l → s1.heap.get? b = some o → (s1.heap.update l (Obj.mapSeq fun xs => xs.reverse)).get? b = some o := fun b o nb q => (Heap.get?_update_other _ _ (Ne.symm nb)).trans q
  have hx : TupKeep s1.heap (s1.heap.update l (Obj.mapSeq fun xs => xs.reverse)) → ObjR C.w (s1.heap.update l (Obj.mapSeq fun xs => xs.reverse)) l (.list vs.reverse) := fun tk => ⟨_, _, IsL.update hl _, by rw [Array.toList_reverse]; exact (r.keep tk).reverse⟩
  obtain ⟨S3, T3⟩ := S1.set (s' := { s1 with heap := s1.heap.update l (Obj.mapSeq fun xs => xs.reverse) }) el kk hx rfl rfl
  exact hQ _ _ _ _ p S3 (T1.trans T3) VR.mkNone

theorem VRs.dropLast {h : Heap} {vs : List V} {xs : List Value} (r : VRs h vs xs) : VRs h vs.dropLast xs.dropLast := by
  rw [List.dropLast_eq_take, List.dropLast_eq_take, r.length]
  exact r.take _
theorem E_pop {o : Expr} {apos pos : Pos} (ok : C.Ok)
    (h : Ev C n env m o σ (fun v σ1 => ∃ l vs u, v = .obj l ∧ σ1 l = some (.list (vs ++ [u])) ∧ vs.length ≤ 90000 ∧ P u (upd σ1 l (.list vs))))
    (hbase : isCall o = false := by rfl) (hline : (apos.endLine == pos.line) = true := by rfl) :
    Ev C n env m (.Call (.Attribute o ("pop" : Str) apos) [] [] pos) σ P := by
  intro A s R S F E Q hQ
  refine wpAny_Call_method0_late (base_of hbase) hline (h A s R S F E _ ?_)
  rintro v x σ1 s1 ⟨l, vs, u, rfl, el, hlen, p⟩ S1 T1 rfl
  obtain ⟨xs, k, hl, r⟩ := (S1.objs l _ el).1
  refine ⟨"list", "list.pop", PySem.F.plainAttrs_list, PySem.F.slot_list_pop, PySem.F.type_list_pop, ⟨_, hl, rfl⟩, (fun a q => by cases q; exact ⟨_, hl, rfl⟩), ?_⟩
  have hsz := size_of r
  rw [List.length_append, List.length_singleton] at hsz
  obtain ⟨y, hy, ry⟩ := r.at (i := vs.length) (v := u) (by simp)
  refine PySem.P.pop_list (y := y) hl (by rw [hsz, Nat.add_sub_cancel]; exact hy) ?_ (size_line (by rw [hsz]; omega))
  have kk : ∀ b o, b ≠ l → s1.heap.get? b = some o → (s1.heap.update l (Obj.mapSeq fun ys => ys.eraseIdxIfInBounds (xs.size - 1))).get? b = some o := fun b o nb q => (Heap.get?_update_other _ _ (Ne.symm nb)).trans q
  have e1 : (xs.eraseIdxIfInBounds (xs.size - 1)).toList = xs.toList.dropLast := by
    have h0 : xs.size - 1 < xs.size := by omega
    unfold Array.eraseIdxIfInBounds
    rw [dif_pos h0, Array.toList_eraseIdx, List.dropLast_eq_take, ← Array.length_toList, List.eraseIdx_eq_take_drop_succ]
    have : xs.toList.length - 1 + 1 = xs.toList.length := by rw [Array.length_toList]; omega
    rw [this, List.drop_length, List.append_nil]
  have hx : TupKeep s1.heap (s1.heap.update l (Obj.mapSeq fun ys => ys.eraseIdxIfInBounds (xs.size - 1))) → ObjR C.w (s1.heap.update l (Obj.mapSeq fun ys => ys.eraseIdxIfInBounds (xs.size - 1))) l (.list vs) := fun tk => ⟨_, _, IsL.update hl _, by
    rw [e1]; have := (r.keep tk).dropLast; rwa [List.dropLast_concat] at this⟩
  obtain ⟨S3, T3⟩ := S1.set (s' := { s1 with heap := s1.heap.update l (Obj.mapSeq fun ys => ys.eraseIdxIfInBounds (xs.size - 1)) }) el kk hx rfl rfl
  exact hQ _ _ _ _ p S3 (T1.trans T3) (ry.keep (T3.tup S1))

theorem two_trees {e f : Expr} {pos : Pos} (h : noStar [e, f] = true) : backTo pos (starEach [e, f] env) = [(false, eval e env), (false, eval f env)] := by
  have h' : isStar e = false ∧ isStar f = false := by simpa [noStar] using h
  rw [star_cons h'.1, star_cons h'.2]; rfl
-- d.get(k, dflt)
theorem E_getS {o e f : Expr} {apos pos : Pos} (ok : C.Ok)
    (h : Ev C n env m o σ (fun v σ1 => ∃ d kvs, v = .obj d ∧ σ1 d = some (.dS kvs) ∧ Ev C n env m e σ1 (fun u σ2 => Ev C n env m f σ2 (fun w σ3 => ∃ kvs x, σ3 d = some (.dS kvs) ∧ u = .str x ∧ P ((kvLook kvs x).getD w) σ3))))
    (hbase : isCall o = false := by rfl) (hline : (apos.endLine == pos.line) = true := by rfl) (htrees : noStar [e, f] = true := by rfl) :
    Ev C n env m (.Call (.Attribute o ("get" : Str) apos) [e, f] [] pos) σ P := by
  intro A s R S F E Q hQ
  refine wpAny_Call_method2_late (base_of hbase) hline (two_trees htrees) (h A s R S F E _ ?_)
  rintro v x σ1 s1 ⟨d, kvs0, rfl, e0, h2⟩ S1 T1 rfl
  obtain ⟨ys0, hd0, _⟩ := (S1.objs d _ e0).1
  obtain ⟨o0, es0, ep0, ho0, hc0, _⟩ := hd0
  have hnm := (S1.objs d _ e0).2.2
  refine ⟨"dict", "dict.get", PySem.F.plainAttrs_dict, PySem.F.slot_dict_get, PySem.F.type_dict_get, ⟨_, ho0, hc0.1⟩, (fun a q => by cases q; exact ⟨_, ho0, hc0.2.1⟩), ?_⟩
  refine wpAny_dict_get2 (knd := PySem.strKind pw C.w) (by simpa using hnm) (h2 A s1 R S1 (F.step S T1) E _ ?_)
  intro u y σ2 s2 h3 S2 T2 V2
  refine h3 A s2 R S2 ((F.step S T1).step S1 T2) E _ ?_
  rintro w z σ3 s3 ⟨kvs, x, ed, rfl, p⟩ S3 T3 V3
  obtain ⟨t, rfl⟩ := (V2.keep (T3.tup S2)).strT
  obtain ⟨ys, hd, r⟩ := (S3.objs d _ ed).1
  refine ⟨x, _, strKind_is pw C.w x t, hd.mapOf, ?_⟩
  refine hQ _ _ σ3 _ p (S3.toks _) (((T1.trans T2).trans T3).trans (Step.grow fun _ _ e => e)) ?_
  cases ek : kvLook kvs x with
  | some v =>
    obtain ⟨y, hy, ry⟩ := (r.look x).1 v ek
    rw [hy]; exact ry
  | none => rw [(r.look x).2 ek]; exact V3

theorem E_getT {o e f : Expr} {apos pos : Pos} (ok : C.Ok)
    (h : Ev C n env m o σ (fun v σ1 => ∃ d kvs, v = .obj d ∧ σ1 d = some (.dT kvs) ∧ Ev C n env m e σ1 (fun u σ2 => Ev C n env m f σ2 (fun w σ3 => ∃ kvs k, σ3 d = some (.dT kvs) ∧ u = .tup (k.map PyData.int) ∧ P ((kvLook kvs k).getD w) σ3))))
    (hbase : isCall o = false := by rfl) (hline : (apos.endLine == pos.line) = true := by rfl) (htrees : noStar [e, f] = true := by rfl) :
    Ev C n env m (.Call (.Attribute o ("get" : Str) apos) [e, f] [] pos) σ P := by
  intro A s R S F E Q hQ
  refine wpAny_Call_method2_late (base_of hbase) hline (two_trees htrees) (h A s R S F E _ ?_)
  rintro v x σ1 s1 ⟨d, kvs0, rfl, e0, h2⟩ S1 T1 rfl
  obtain ⟨ys0, hd0, _⟩ := (S1.objs d _ e0).1
  obtain ⟨o0, es0, ep0, ho0, hc0, _⟩ := hd0
  have hnm := (S1.objs d _ e0).2.2
  refine ⟨"dict", "dict.get", PySem.F.plainAttrs_dict, PySem.F.slot_dict_get, PySem.F.type_dict_get, ⟨_, ho0, hc0.1⟩, (fun a q => by cases q; exact ⟨_, ho0, hc0.2.1⟩), ?_⟩
  refine wpAny_dict_get2_heap (knd := tKind C.w) R.key (by simpa using hnm) (h2 A s1 R S1 (F.step S T1) E _ ?_)
  intro u y σ2 s2 h3 S2 T2 V2
  refine h3 A s2 R S2 ((F.step S T1).step S1 T2) E _ ?_
  rintro w z σ3 s3 ⟨kvs, k, ed, rfl, p⟩ S3 T3 V3
  obtain ⟨a, rfl, hkey⟩ := tup_key (w := C.w) (V2.keep (T3.tup S2))
  obtain ⟨ys, hd, r⟩ := (S3.objs d _ ed).1
  refine ⟨a, k, ys, rfl, hkey, hd, ?_⟩
  refine hQ _ _ σ3 _ p (S3.toks _) (((T1.trans T2).trans T3).trans (Step.grow fun _ _ e => e)) ?_
  cases ek : kvLook kvs k with
  | some v =>
    obtain ⟨y, hy, ry⟩ := (r.look k).1 v ek
    rw [hy]; exact ry
  | none => rw [(r.look k).2 ek]; exact V3

-- built-in functions and types
noncomputable def CallV (C : Cx) (n : Nat) (f : Value) (vs : List V) (σ : AH) (P : V → AH → Prop) : Prop := ∀ xs, W C n (fun _ s => VRs s.heap vs xs) VR (call f xs) σ P
structure GlobB (C : Cx) (x : Str) (f : Value) : Prop where
  ns : nsIn C.K mainGlobals x = some none
  boot : bootBuiltins x = some f
  nn : x ≠ "__name__"
  nd : (x == ("__debug__" : Str)) = false
  nr : ∀ a, f ≠ .ref a
theorem looks_keeper {M : Model} {f : Value} (nr : ∀ a, f ≠ .ref a) (h : Heap) (_ : True) : ∃ k, (k = Keeper.frame ∨ k = Keeper.machine ∨ k = Keeper.boundFrame) ∧ Looks M h (keeperOf f) k := by
  refine ⟨.machine, .inr (.inl rfl), Looks.of_pure ?_⟩
  cases f <;> first | rfl | exact absurd rfl (nr _)
theorem E_blt {x : Str} {np pos : Pos} {args : List Expr} {f : Value} (ok : C.Ok) (g : GlobB C x f) (hk : env.kindOf x = some .globalImplicit)
    (h : Evs C n env m pos args σ (fun vs σ1 => CallV C n f vs σ1 P))
    (hp : args = [] ∨ (∃ e rest, args = e :: rest ∧ starEach (e :: rest) env = (false, eval e env) :: starEach rest env ∧ (backTo pos (starEach rest env)).any (·.1) = false) := by first | exact Or.inl rfl | exact Or.inr ⟨_, _, rfl, rfl, rfl⟩) :
    Ev C n env m (.Call (.Name x np) args [] pos) σ P := by
  intro A s R S F E Q hQ
  refine wpAny_Call_ofName (wp_blt ok S F hk g.nd g.ns g.nn g.boot ?_)
  show wpAny _ _ (callWith pos f [] (backTo pos (starEach args env)) []) _ _ _
  have h2' := h A s R S F E (fun xs s2 => True ∧ wpAny C.M A (call f ([] ++ xs) []) Q E s2) fun vs xs σ2 s2 h3 S2 T2 V2 => ⟨trivial, h3 xs A s2 R S2 V2 E _ fun v x σ3 s3 p S3 T3 V3 => hQ v x σ3 s3 p S3 (T2.trans T3) V3⟩
  rcases hp with rfl | ⟨e, rest, rfl, h4, h5⟩
  · exact callWith_of (P := fun _ => True) rfl (looks_keeper g.nr) (evalArgs_spl0 h2')
  · rw [h4] at h2' ⊢
    exact callWith_of (P := fun _ => True) (by show ((false || (backTo pos (starEach rest env)).any (·.1)) || false) = false; rw [h5]; rfl) (looks_keeper g.nr) (Calls.evalArgs_plain h2')

theorem one_arg {h : Heap} {v : V} {xs : List Value} (r : VRs h [v] xs) : ∃ x, xs = [x] ∧ VR h v x := by
  cases r with | cons a q => cases q; exact ⟨_, rfl, a⟩
theorem two_args {h : Heap} {v u : V} {xs : List Value} (r : VRs h [v, u] xs) : ∃ x y, xs = [x, y] ∧ VR h v x ∧ VR h u y := by
  cases r with | cons a q => obtain ⟨y, rfl, b⟩ := one_arg q; exact ⟨_, y, rfl, a, b⟩

theorem cv_len {l : Addr} {vs : List V} (e : σ l = some (.list vs)) (hl : vs.length ≤ 100000) (h : P (.int (vs.length : Int)) σ) : CallV C n (.builtin "len") [.obj l] σ P := by
  intro xs A s R S F E Q hQ
  obtain ⟨x, rfl, rfl⟩ := one_arg F
  obtain ⟨ys, k, hy, r⟩ := (S.objs l _ e).1
  have hs := size_of r
  refine call_len_list hy.isList (by rw [hs]; omega) ?_
  rw [hs]
  exact tokq S hQ h (VR.mkInt _ _)
theorem cv_len_tup {ds : List PyData} (hl : ds.length ≤ 100000) (h : P (.int (ds.length : Int)) σ) : CallV C n (.builtin "len") [.tup ds] σ P := by
  intro xs A s R S F E Q hQ
  obtain ⟨x, rfl, rx⟩ := one_arg F
  obtain ⟨a, ys, rfl, ht, r⟩ := rx.tupT
  have hs := size_of r
  rw [List.length_map] at hs
  refine PyProof.Rows.len_tuple ht (by rw [hs]; omega) ?_
  rw [hs]
  exact tokq S hQ h (VR.mkInt _ _)
theorem cv_range1 {b : Int} (ok : C.Ok) (h : ∀ a, σ a = none → P (.obj a) (upd σ a (.rng 0 b))) : CallV C n (.type "range") [.int b] σ P := by
  intro xs A s R S F E Q hQ
  obtain ⟨x, rfl, rx⟩ := one_arg F
  obtain ⟨t, rfl⟩ := rx.intT
  refine call_range_1 ?_
  have hb := S.big ok
  obtain ⟨h1, S2, T2⟩ := S.new ok (s' := { s with heap := s.heap.push { cls := .type "range", data := .fields #[.int 0 s.toks, .int b t, .int 1 (s.toks + 1)] }, toks := s.toks + 1 + 1 }) (x := .rng 0 b) (get_size _) hb (push_keep _) rfl rfl ⟨_, _, _, IsRange.new _ _ _ _ _ _ _⟩
  exact hQ _ _ _ _ (h _ h1) S2 T2 rfl
theorem cv_range2 {c b : Int} (ok : C.Ok) (h : ∀ a, σ a = none → P (.obj a) (upd σ a (.rng c b))) : CallV C n (.type "range") [.int c, .int b] σ P := by
  intro xs A s R S F E Q hQ
  obtain ⟨x, y, rfl, rx, ry⟩ := two_args F
  obtain ⟨t, rfl⟩ := rx.intT
  obtain ⟨u, rfl⟩ := ry.intT
  refine call_range_2 ?_
  have hb := S.big ok
  obtain ⟨h1, S2, T2⟩ := S.new ok (s' := { s with heap := s.heap.push { cls := .type "range", data := .fields #[.int c t, .int b u, .int 1 s.toks] }, toks := s.toks + 1 }) (x := .rng c b) (get_size _) hb (push_keep _) rfl rfl ⟨_, _, _, IsRange.new _ _ _ _ _ _ _⟩
  exact hQ _ _ _ _ (h _ h1) S2 T2 rfl
theorem cv_list_list {l : Addr} {vs : List V} (ok : C.Ok) (e : σ l = some (.list vs)) (hl : vs.length ≤ 100000) (h : ∀ a, σ a = none → P (.obj a) (upd σ a (.list vs))) : CallV C n (.type "list") [.obj l] σ P := by
  intro xs A s R S F E Q hQ
  obtain ⟨x, rfl, rfl⟩ := one_arg F
  obtain ⟨ys, k, hy, r⟩ := (S.objs l _ e).1
  refine call_list_seq l (.inl rfl) hy rfl rfl (fun h' c' kk hn => ?_) (size_line (by rw [size_of r]; exact hl))
  obtain ⟨h1, S2, T2⟩ := S.new ok (s' := { s with heap := h' }) (x := .list vs) (get_size _) (S.big ok) kk rfl rfl ⟨ys, c', hn, r.keep (TupKeep.of_keep kk)⟩
  exact hQ _ _ _ _ (h _ h1) S2 T2 rfl
theorem cv_list_tup {ds : List PyData} (ok : C.Ok) (hl : ds.length ≤ 100000) (h : ∀ a, σ a = none → P (.obj a) (upd σ a (.list (dats ds)))) : CallV C n (.type "list") [.tup ds] σ P := by
  intro xs A s R S F E Q hQ
  obtain ⟨x, rfl, rx⟩ := one_arg F
  obtain ⟨a, ys, rfl, ⟨o, ho, hc, k, hd⟩, r⟩ := rx.tupT
  refine call_list_seq a (.inr rfl) ho hc hd (fun h' c' kk hn => ?_) (size_line (by rw [size_of r, List.length_map]; exact hl))
  obtain ⟨h1, S2, T2⟩ := S.new ok (s' := { s with heap := h' }) (x := .list (dats ds)) (get_size _) (S.big ok) kk rfl rfl ⟨ys, c', hn, r.keep (TupKeep.of_keep kk)⟩
  exact hQ _ _ _ _ (h _ h1) S2 T2 rfl
theorem VRs.of_at {h : Heap} : ∀ {vs : List V} {xs : List Value}, xs.length = vs.length → (∀ (j : Nat) (x : Value), xs[j]? = some x → ∃ v, vs[j]? = some v ∧ VR h v x) → VRs h vs xs
  | [], [], _, _ => .nil
  | [], _ :: _, h, _ => by simp at h
  | _ :: _, [], h, _ => by simp at h
  | v :: vs, x :: xs, hl, h => by
    obtain ⟨v', e, r⟩ := h 0 x rfl
    simp at e; subst e
    exact .cons r (VRs.of_at (by simpa using hl) fun j x hx => h (j + 1) x (by simpa using hx))
theorem cv_list_rng {l : Addr} {b : Nat} (ok : C.Ok) (e : σ l = some (.rng 0 (b : Int))) (hb : b ≤ 100000) (h : ∀ a, σ a = none → P (.obj a) (upd σ a (.list ((List.range b).map fun i : Nat => V.int (i : Int))))) : CallV C n (.type "list") [.obj l] σ P := by
  intro xs A s R S F E Q hQ
  obtain ⟨x, rfl, rfl⟩ := one_arg F
  obtain ⟨t, u, v, hr⟩ := (S.objs l _ e).1
  refine call_list_range R.1 hr (small_one (by omega) (by omega) (by omega) (by omega)) (n := b) (by rw [PyProof.Rows.rangeSize_nat]; omega) (by omega) (fun h' tk acc' c' kk hn hit => ?_)
  have rr : VRs h' ((List.range b).map fun i : Nat => V.int (i : Int)) acc'.toList := by
    refine VRs.of_at (by rw [Array.length_toList, hit.1]; simp) fun j x hx => ?_
    rw [Array.getElem?_toList] at hx
    obtain ⟨t', rfl⟩ := hit.2 j x hx
    have hj : j < b := by
      rcases Nat.lt_or_ge j b with q | q
      · exact q
      · rw [Array.getElem?_eq_none (by rw [hit.1]; exact q)] at hx; cases hx
    refine ⟨V.int (j : Int), by simp [hj], ?_⟩
    have : (0 : Int) + (j : Int) * 1 = (j : Int) := by omega
    rw [this]
    exact VR.mkInt _ _
  obtain ⟨h1, S2, T2⟩ := S.new ok (s' := { s with heap := h', toks := tk }) (x := .list ((List.range b).map fun i : Nat => V.int (i : Int))) (get_size _) (S.big ok) kk rfl rfl ⟨acc', c', hn, rr⟩
  exact hQ _ _ _ _ (h _ h1) S2 T2 rfl
theorem cv_tuple {l : Addr} {vs : List V} {ds : List PyData} (e : σ l = some (.list vs) ∨ σ l = some (.rlist vs)) (ev : vs = dats ds) (hl : ds.length ≤ 100000) (hd : PyData.depthAll ds ≤ 7) (h : P (.tup ds) σ) : CallV C n (.type "tuple") [.obj l] σ P := by
  subst ev
  intro xs A s R S F E Q hQ
  obtain ⟨x, rfl, rfl⟩ := one_arg F
  have : ∃ ys, s.heap.IsList l ys ∧ VRs s.heap (dats ds) ys.toList := by
    rcases e with e | e
    · obtain ⟨ys, k, hy, r⟩ := (S.objs l _ e).1; exact ⟨ys, hy.isList, r⟩
    · obtain ⟨ys, hy, r⟩ := (S.objs l _ e).1; exact ⟨ys, hy, r⟩
  obtain ⟨ys, hy, r⟩ := this
  refine call_tuple_list hy (fun h' kk => ?_) (size_line (by rw [size_of r, List.length_map]; exact hl))
  have k2 : ∀ b o, s.heap.get? b = some o → (h'.push { cls := .type "tuple", data := .seq ys }).get? b = some o := fun b o e => push_keep _ _ _ (kk _ _ e)
  refine hQ _ _ σ _ h (S.grow k2 rfl rfl) (Step.grow k2) ⟨okD_tuple r.okAll hd, ?_⟩
  obtain ⟨as, rd⟩ := (r.keep (TupKeep.of_keep k2)).reads
  exact ⟨as, .tuple (Heap.get?_push_size _ rfl) rfl rfl rd⟩
theorem strs_of {h : Heap} : ∀ {ss : List Str} {xs : List Value}, VRs h (ss.map V.str) xs → StrsAre xs ss
  | [], _, .nil => .nil
  | s :: ss, _, .cons a r => by obtain ⟨t, rfl⟩ := VR.strT a; exact .cons s t (strs_of r)
theorem of_strs {h : Heap} : ∀ {ss : List Str} {xs : List Value}, StrsAre xs ss → (∀ s ∈ ss, PyData.strOk s = true) → VRs h (ss.map V.str) xs
  | _, _, .nil, _ => .nil
  | _, _, .cons y t r, ok => .cons (VR.mkStr (ok _ (.head _)) t) (of_strs r fun s hs => ok s (.tail _ hs))
theorem cv_sorted {l : Addr} {ss : List Str} (ok : C.Ok) (e : σ l = some (.list (ss.map V.str))) (hl : ss.length < 64) (h : ∀ a ss', σ a = none → ss'.Perm ss → sortedS ss' = true → P (.obj a) (upd σ a (.list (ss'.map V.str)))) : CallV C n (.builtin "sorted") [.obj l] σ P := by
  intro xs A s R S F E Q hQ
  obtain ⟨x, rfl, rfl⟩ := one_arg F
  obtain ⟨ys, k, hy, r⟩ := (S.objs l _ e).1
  have hl' := r.length
  rw [List.length_map] at hl'
  have okS : ∀ s ∈ ss, PyData.strOk s = true := by
    have : ∀ {ss : List Str} {xs : List Value}, VRs s.heap (ss.map V.str) xs → ∀ s ∈ ss, PyData.strOk s = true := by
      intro ss
      induction ss with
      | nil => intro _ _ s hs; cases hs
      | cons y ss ih =>
        intro xs q s hs
        cases q with
        | cons a r =>
          rcases List.mem_cons.mp hs with rfl | hs
          · have := a.1; simp [okD, fz] at this; exact this.1
          · exact ih r s hs
    exact this r
  refine PyProof.Rows.sorted_strs (vs := ys.toList) (ss := ss) (by rw [Array.toArray_toList]; exact hy.isList) (strs_of r) (by omega) fun out ss' a1 a2 a3 => ?_
  obtain ⟨e', he'⟩ := sortedAll_at s.heap ys.toList out
  have kk : ∀ b o, s.heap.get? b = some o → (sortedAll s.heap ys.toList out).get? b = some o := fun b o q => sortedAll_old q
  obtain ⟨h1, S2, T2⟩ := S.new ok (s' := { s with heap := sortedAll s.heap ys.toList out }) (a := s.heap.objs.size + 1) (x := .list (ss'.map V.str)) (get_none (Nat.le_succ _)) (Nat.lt_succ_of_lt (S.big ok)) kk rfl rfl
    ⟨out, e', he', of_strs a1 fun s hs => okS s (a2.subset hs)⟩
  exact hQ _ _ _ _ (h _ _ h1 a2 a3) S2 T2 rfl
end
section
variable {C : Cx} {n : Nat} {env : Env} {m : Vars} {σ : AH} {P : V → AH → Prop}

theorem list_reads {s : Shared} {l : Addr} {ds : List PyData} (S : SR C σ s) (e : σ l = some (.list (dats ds)) ∨ σ l = some (.rlist (dats ds))) : ∃ as, Reads s.heap (.ref l) (.list ds) as ∧ ∀ d ∈ ds, okD d = true := by
  rcases e with e | e
  · obtain ⟨xs, k, hl, r⟩ := (S.objs l _ e).1
    obtain ⟨as, ra⟩ := r.reads
    exact ⟨_, .list hl rfl rfl ra, r.okAll⟩
  · obtain ⟨xs, ⟨o, ho, hc, k, hd⟩, r⟩ := (S.objs l _ e).1
    obtain ⟨as, ra⟩ := r.reads
    exact ⟨_, .list ho hc hd ra, r.okAll⟩
theorem okD_fz {d : PyData} (h : okD d = true) : fz d = true := by
  simp only [okD, Bool.and_eq_true] at h; exact h.1
theorem okD_depth {d : PyData} (h : okD d = true) : d.depth ≤ 8 := by
  simp only [okD, Bool.and_eq_true, decide_eq_true_eq] at h; exact h.2
theorem nbs_of {ds : List PyData} (h : ∀ d ∈ ds, nb d = true) : nbs ds = true := by
  induction ds with
  | nil => rfl
  | cons d ds ih => simp only [nbs, h d (.head _), ih fun e he => h e (.tail _ he), Bool.and_self]
open Classical in
theorem any_mem {ds : List PyData} {d : PyData} (h : ∀ d ∈ ds, nb d = true) (hd : nb d = true) : (ds.any fun y => PyData.eqv y d) = decide (d ∈ ds) := by
  by_cases q : d ∈ ds
  · rw [decide_eq_true q, List.any_eq_true]
    exact ⟨d, q, (eqv_iff d d hd hd).mpr rfl⟩
  · rw [decide_eq_false q, List.any_eq_false]
    intro y hy e
    exact q ((eqv_iff y d (h y hy) hd).mp e ▸ hy)
theorem units_in {A : Around} (R : Room n A) {k l : Nat} (h : l ≤ 8) : A.units + 1 + min k l < cLine := by
  have := R.units; omega

open Classical in
theorem op_in_list {d : PyData} {l : Addr} {ds : List PyData} (e : σ l = some (.list (dats ds)) ∨ σ l = some (.rlist (dats ds))) (hn : ∀ d ∈ ds, nb d = true) (hd : nb d = true) (h : P (.bool (decide (d ∈ ds))) σ) : Op2 C n (compareOp .In) (.dat d) (.obj l) σ P := fun x y A s R S F E Q hQ => by
  obtain ⟨⟨k1, bs, rx⟩, rfl⟩ := F
  obtain ⟨as, rl, ok⟩ := list_reads S e
  refine SeqAt.in_list_reads rl rx (fzs_canLay _ (fzs_of ok)) (fz_canLay _ (okD_fz k1)) (units_in R (okD_depth k1)) ?_
  rw [any_mem hn hd]
  exact hQ _ _ σ s h S (Step.refl _ _) (VR.mkBool _)
open Classical in
theorem op_notin_list {d : PyData} {l : Addr} {ds : List PyData} (e : σ l = some (.list (dats ds)) ∨ σ l = some (.rlist (dats ds))) (hn : ∀ d ∈ ds, nb d = true) (hd : nb d = true) (h : P (.bool (!decide (d ∈ ds))) σ) : Op2 C n (compareOp .NotIn) (.dat d) (.obj l) σ P := fun x y A s R S F E Q hQ => by
  obtain ⟨⟨k1, bs, rx⟩, rfl⟩ := F
  obtain ⟨as, rl, ok⟩ := list_reads S e
  refine SeqAt.notIn_list_reads rl rx (fzs_canLay _ (fzs_of ok)) (fz_canLay _ (okD_fz k1)) (units_in R (okD_depth k1)) ?_
  rw [any_mem hn hd]
  exact hQ _ _ σ s h S (Step.refl _ _) (VR.mkBool _)
open Classical in
theorem op_in_tup {d : PyData} {ds : List PyData} (hn : ∀ d ∈ ds, nb d = true) (hd : nb d = true) (h : P (.bool (decide (d ∈ ds))) σ) : Op2 C n (compareOp .In) (.dat d) (.tup ds) σ P := fun x y A s R S F E Q hQ => by
  obtain ⟨⟨k1, bs, rx⟩, k2, as, rl⟩ := F
  have f2 : fzs ds = true := by simpa [fz] using okD_fz k2
  refine SeqAt.in_tuple_reads rl rx (fzs_canLay _ f2) (fz_canLay _ (okD_fz k1)) (units_in R (okD_depth k1)) ?_
  rw [any_mem hn hd]
  exact hQ _ _ σ s h S (Step.refl _ _) (VR.mkBool _)

-- lists: == and !=
theorem list_shaped {ds : List PyData} (h : ∀ d ∈ ds, okD d = true) : SeqAt.shaped (.list ds) = true := by
  have h1 : PyData.depthAll ds ≤ 8 := depthAll_of fun d hd => okD_depth (h d hd)
  unfold SeqAt.shaped
  rw [PyData.canLay0, fzs_canLay ds (fzs_of h), Bool.true_and, PyData.depth]
  exact decide_eq_true (by omega)
open Classical in
theorem eqv_list {ds es : List PyData} (hd : ∀ d ∈ ds, nb d = true) (he : ∀ d ∈ es, nb d = true) : PyData.eqv (.list ds) (.list es) = decide (ds = es) := by
  have h1 := eqvAll_iff ds es (nbs_of hd) (nbs_of he)
  rw [PyData.eqv]
  by_cases q : ds = es
  · rw [decide_eq_true q]; exact h1.mpr q
  · rw [decide_eq_false q]; exact Bool.eq_false_iff.mpr fun x => q (h1.mp x)
open Classical in
theorem op_eq_list {l r : Addr} {ds es : List PyData} (e1 : σ l = some (.list (dats ds))) (e2 : σ r = some (.list (dats es))) (hd : ∀ d ∈ ds, nb d = true) (he : ∀ d ∈ es, nb d = true) (h : P (.bool (decide (ds = es))) σ) : Op2 C n (compareOp .Eq) (.obj l) (.obj r) σ P := fun x y A s R S F E Q hQ => by
  obtain ⟨rfl, rfl⟩ := F
  obtain ⟨as, r1, o1⟩ := list_reads S (.inl e1)
  obtain ⟨bs, r2, o2⟩ := list_reads S (.inl e2)
  refine PyProof.Rows.eq_dataH r1 r2 (list_shaped o1) (list_shaped o2) R.units ?_
  rw [eqv_list hd he]
  exact hQ _ _ σ s h S (Step.refl _ _) (VR.mkBool _)
open Classical in
theorem op_ne_list {l r : Addr} {ds es : List PyData} (e1 : σ l = some (.list (dats ds))) (e2 : σ r = some (.list (dats es))) (hd : ∀ d ∈ ds, nb d = true) (he : ∀ d ∈ es, nb d = true) (h : P (.bool (!decide (ds = es))) σ) : Op2 C n (compareOp .NotEq) (.obj l) (.obj r) σ P := fun x y A s R S F E Q hQ => by
  obtain ⟨rfl, rfl⟩ := F
  obtain ⟨as, r1, o1⟩ := list_reads S (.inl e1)
  obtain ⟨bs, r2, o2⟩ := list_reads S (.inl e2)
  refine PyProof.Rows.ne_dataH r1 r2 (list_shaped o1) (list_shaped o2) R.units ?_
  rw [eqv_list hd he]
  exact hQ _ _ σ s h S (Step.refl _ _) (VR.mkBool _)
theorem op_add_list {l r : Addr} {vs us : List V} (ok : C.Ok) (e1 : σ l = some (.list vs)) (e2 : σ r = some (.list us)) (hlen : vs.length + us.length ≤ 100000) (h : ∀ a, σ a = none → P (.obj a) (upd σ a (.list (vs ++ us)))) : Op2 C n (binaryOp .Add) (.obj l) (.obj r) σ P := fun x y A s R S F E Q hQ => by
  obtain ⟨rfl, rfl⟩ := F
  obtain ⟨xs, k, hl, r1⟩ := (S.objs l _ e1).1
  obtain ⟨ys, k2, hr, r2⟩ := (S.objs r _ e2).1
  refine PySem.P.add_list hl hr ?_ (size_line (by rw [size_of r1, size_of r2]; exact hlen))
  have V2 := (r1.append r2).keep (TupKeep.of_keep (push_keep (h := s.heap) { cls := .type "list", data := .seq (xs ++ ys) }))
  obtain ⟨h1, S2, T2⟩ := S.alloc ok (o := { cls := .type "list", data := .seq (xs ++ ys) }) (x := .list (vs ++ us)) rfl ⟨xs ++ ys, 0, IsL.new _ _, by rw [Array.toList_append]; exact V2⟩
  exact hQ _ _ _ _ (h _ h1) S2 T2 rfl

-- dicts: in
theorem op_in_dT {k : List Int} {d : Addr} {kvs : List (List Int × V)} (e : σ d = some (.dT kvs)) (h : P (.bool (kvLook kvs k).isSome) σ) : Op2 C n (compareOp .In) (.tup (k.map PyData.int)) (.obj d) σ P := fun x y A s R S F E Q hQ => by
  obtain ⟨hx, rfl⟩ := F
  obtain ⟨a, rfl, hkey⟩ := tup_key (w := C.w) hx
  obtain ⟨⟨ys, hd, r⟩, _, hnm⟩ := S.objs d _ e
  refine wpAny_in_heap (knd := tKind C.w) R.key hkey (by simpa using hnm) hd ?_
  have : (atKey ys k).isSome = (kvLook kvs k).isSome := by
    cases ek : kvLook kvs k with
    | some v => obtain ⟨p, hp, _⟩ := (r.look k).1 v ek; rw [hp]; rfl
    | none => rw [(r.look k).2 ek]; rfl
  rw [this]
  exact tokq S hQ h (VR.mkBool _)
theorem op_notin_dT {k : List Int} {d : Addr} {kvs : List (List Int × V)} (e : σ d = some (.dT kvs)) (h : P (.bool (!(kvLook kvs k).isSome)) σ) : Op2 C n (compareOp .NotIn) (.tup (k.map PyData.int)) (.obj d) σ P := fun x y A s R S F E Q hQ => by
  obtain ⟨hx, rfl⟩ := F
  obtain ⟨a, rfl, hkey⟩ := tup_key (w := C.w) hx
  obtain ⟨⟨ys, hd, r⟩, _, hnm⟩ := S.objs d _ e
  refine wpAny_notIn_heap (knd := tKind C.w) R.key hkey (by simpa using hnm) hd ?_
  have : (atKey ys k).isSome = (kvLook kvs k).isSome := by
    cases ek : kvLook kvs k with
    | some v => obtain ⟨p, hp, _⟩ := (r.look k).1 v ek; rw [hp]; rfl
    | none => rw [(r.look k).2 ek]; rfl
  rw [this]
  exact tokq S hQ h (VR.mkBool _)
theorem op_notin_dI {k : Int} {d : Addr} {kvs : List (Int × V)} (e : σ d = some (.dI kvs)) (h : P (.bool (!(kvLook kvs k).isSome)) σ) : Op2 C n (compareOp .NotIn) (.int k) (.obj d) σ P := fun x y A s R S F E Q hQ => by
  obtain ⟨hx, rfl⟩ := F
  obtain ⟨t, rfl⟩ := hx.intT
  obtain ⟨⟨ys, hd, r⟩, _, hnm⟩ := S.objs d _ e
  refine wpAny_notIn_of (intKind_is pw C.w k t) (by simpa using hnm) hd.mapOf ?_
  have : (valueAt ys k).isSome = (kvLook kvs k).isSome := by
    cases ek : kvLook kvs k with
    | some v => obtain ⟨p, hp, _⟩ := (r.look k).1 v ek; rw [hp]; rfl
    | none => rw [(r.look k).2 ek]; rfl
  rw [this]
  exact tokq S hQ h (VR.mkBool _)

-- o[i] = v
/-- the value v is put at index iv of ov -/
noncomputable def PutV (C : Cx) (n : Nat) (ov iv v : V) (σ : AH) (P : AH → Prop) : Prop :=
  ∀ x y z A s, Room n A → SR C σ s → VR s.heap ov x → VR s.heap iv y → VR s.heap v z → ∀ (E : Value → Shared → Prop) (Q : Unit → Shared → Prop),
    (∀ σ' s', P σ' → SR C σ' s' → Step σ s σ' s' → Q () s') → wpAny C.M A (setItem x y z) Q E s
theorem X_setitem {o i value : Expr} {p' pos : Pos} {rest : List Stmt} {P : Out → Vars → AH → Prop}
    (h : Ev C n env m value σ (fun v σ1 => Ev C n env m o σ1 (fun ov σ2 => Ev C n env m i σ2 (fun iv σ3 => PutV C n ov iv v σ3 (fun σ4 => Ex C n env m rest σ4 P)))))
    (hs : isComp value = false := by rfl) : Ex C n env m (.Assign [.Subscript o i p'] value pos :: rest) σ P := by
  refine X_cons fun A s R S F E Q hQ => wpAny_Assign_Subscript (h A s R S F E _ ?_) (swap_of hs)
  intro v z σ1 s1 h2 S1 T1 V1
  have F1 := F.step S T1
  refine h2 A s1 R S1 F1 E _ ?_
  intro ov x σ2 s2 h3 S2 T2 V2
  have F2 := F1.step S1 T2
  refine h3 A s2 R S2 F2 E _ ?_
  intro iv y σ3 s3 h4 S3 T3 V3
  refine h4 x y z A s3 R S3 (V2.keep (T3.tup S2)) V3 ((V1.keep (T2.tup S1)).keep (T3.tup S2)) E _ ?_
  intro σ4 s4 p S4 T4
  have T14 := ((T1.trans T2).trans T3).trans T4
  exact hQ .next _ m σ4 s4 p rfl S4 (F.step S T14) T14.toL
theorem set_keep {h h' : Heap} {a : Addr} (x : Heap.SameBut a h h') : ∀ b o, b ≠ a → h.get? b = some o → h'.get? b = some o := fun b o nb e => (x.2 b nb).trans e
theorem put_list {l : Addr} {vs : List V} {k : Nat} {v : V} {P : AH → Prop} (e : σ l = some (.list vs) ∨ σ l = some (.rlist vs)) (hk : k < vs.length) (hl : vs.length ≤ 100000) (h : P (upd σ l (.rlist (vs.set k v)))) : PutV C n (.obj l) (.int (k : Int)) v σ P := by
  rintro x y z A s R S rfl hy hz E Q hQ
  obtain ⟨t, rfl⟩ := hy.intT
  have : ∃ xs, s.heap.IsList l xs ∧ VRs s.heap vs xs.toList := by
    rcases e with e | e
    · obtain ⟨xs, k, hl, r⟩ := (S.objs l _ e).1; exact ⟨xs, hl.isList, r⟩
    · exact (S.objs l _ e).1
  obtain ⟨xs, hlx, r⟩ := this
  have hsz := size_of r
  refine wpAny_setItem_list hlx (by omega) (by omega) (by rw [hsz]; omega) fun h' hn hs => ?_
  have key : ∀ y, σ l = some y → SR C (upd σ l (.rlist (vs.set k v))) { s with heap := h' } ∧ Step σ s (upd σ l (.rlist (vs.set k v))) { s with heap := h' } := fun y ey => S.set (s' := { s with heap := h' }) (y := .rlist (vs.set k v)) ey (set_keep hs) (fun tk => ⟨_, hn, by
    rw [Int.toNat_natCast, Array.toList_setIfInBounds]; exact (r.keep tk).set k (hz.keep tk)⟩) rfl rfl
  rcases e with e | e
  · obtain ⟨S', T'⟩ := key _ e; exact hQ _ _ h S' T'
  · obtain ⟨S', T'⟩ := key _ e; exact hQ _ _ h S' T'
theorem put_dS {d : Addr} {kvs : List (Str × V)} {k : Str} {v : V} {P : AH → Prop} (e : σ d = some (.dS kvs)) (hl : kvs.length ≤ 100000) (h : P (upd σ d (.dS (kvPut kvs k v)))) : PutV C n (.obj d) (.str k) v σ P := by
  rintro x y z A s R S rfl hy hz E Q hQ
  obtain ⟨t, rfl⟩ := hy.strT
  obtain ⟨ys, hd, r⟩ := (S.objs d _ e).1
  refine wpAny_setItem_pairs (strKind_is pw C.w k t) hd (fun h' hn hs => ?_) (by first | exact size_line (by rw [← r.length]; exact hl) | skip)
  obtain ⟨S', T'⟩ := S.set (s' := { s with heap := h', toks := s.toks + 1 }) (y := .dS (kvPut kvs k v)) e (set_keep hs) (fun tk => ⟨_, hn, (r.keep tk).put k (hz.keep tk)⟩) rfl rfl
  exact hQ _ _ h S' T'
theorem put_dI {d : Addr} {kvs : List (Int × V)} {k : Int} {v : V} {P : AH → Prop} (e : σ d = some (.dI kvs)) (hl : kvs.length ≤ 100000) (h : P (upd σ d (.dI (kvPut kvs k v)))) : PutV C n (.obj d) (.int k) v σ P := by
  rintro x y z A s R S rfl hy hz E Q hQ
  obtain ⟨t, rfl⟩ := hy.intT
  obtain ⟨ys, hd, r⟩ := (S.objs d _ e).1
  refine wpAny_setItem_pairs (intKind_is pw C.w k t) hd (fun h' hn hs => ?_) (by first | exact size_line (by rw [← r.length]; exact hl) | skip)
  obtain ⟨S', T'⟩ := S.set (s' := { s with heap := h', toks := s.toks + 1 }) (y := .dI (kvPut kvs k v)) e (set_keep hs) (fun tk => ⟨_, hn, (r.keep tk).put k (hz.keep tk)⟩) rfl rfl
  exact hQ _ _ h S' T'
theorem put_dT {d : Addr} {kvs : List (List Int × V)} {k : List Int} {v : V} {P : AH → Prop} (e : σ d = some (.dT kvs)) (hl : kvs.length ≤ 100000) (hk : kvLook kvs k = none) (h : P (upd σ d (.dT (kvs ++ [(k, v)])))) : PutV C n (.obj d) (.tup (k.map PyData.int)) v σ P := by
  rintro x y z A s R S rfl hy hz E Q hQ
  obtain ⟨a, rfl, hkey⟩ := tup_key (w := C.w) hy
  obtain ⟨ys, hd, r⟩ := (S.objs d _ e).1
  refine wpAny_setItem_heap (knd := tKind C.w) R.key hkey hd (fun h' hn hs => ?_) (by first | exact size_line (by rw [← r.length]; exact hl) | skip)
  obtain ⟨S', T'⟩ := S.set (s' := { s with heap := h', toks := s.toks + (tKind C.w).draws k }) (y := .dT (kvs ++ [(k, v)])) e (set_keep hs) (fun tk => ⟨_, hn, (r.keep tk).put k a hk (hz.keep tk)⟩) rfl rfl
  exact hQ _ _ h S' T'

-- {}
theorem E_dS {pos : Pos} (ok : C.Ok) (h : ∀ a, σ a = none → P (.obj a) (upd σ a (.dS []))) : Ev C n env m (.Dict [] [] pos) σ P := by
  intro A s R S F E Q hQ
  refine wpAny_Dict_empty ?_
  obtain ⟨h1, S2, T2⟩ := S.alloc ok (o := { cls := .type "dict", data := .dict #[] }) (x := .dS []) rfl ⟨[], ⟨_, _, _, Heap.get?_push_size _ rfl, ⟨rfl, rfl, rfl⟩, rfl, (by intro e he; simp at he), .nil, .nil⟩, .nil⟩
  exact hQ _ _ _ _ (h _ h1) S2 T2 rfl
theorem E_dI {pos : Pos} (ok : C.Ok) (h : ∀ a, σ a = none → P (.obj a) (upd σ a (.dI []))) : Ev C n env m (.Dict [] [] pos) σ P := by
  intro A s R S F E Q hQ
  refine wpAny_Dict_empty ?_
  obtain ⟨h1, S2, T2⟩ := S.alloc ok (o := { cls := .type "dict", data := .dict #[] }) (x := .dI []) rfl ⟨[], ⟨_, _, _, Heap.get?_push_size _ rfl, ⟨rfl, rfl, rfl⟩, rfl, (by intro e he; simp at he), .nil, .nil⟩, .nil⟩
  exact hQ _ _ _ _ (h _ h1) S2 T2 rfl
theorem E_dT {pos : Pos} (ok : C.Ok) (h : ∀ a, σ a = none → P (.obj a) (upd σ a (.dT []))) : Ev C n env m (.Dict [] [] pos) σ P := by
  intro A s R S F E Q hQ
  refine wpAny_Dict_empty ?_
  obtain ⟨h1, S2, T2⟩ := S.alloc ok (o := { cls := .type "dict", data := .dict #[] }) (x := .dT []) rfl ⟨[], ⟨_, _, _, Heap.get?_push_size _ rfl, ⟨rfl, rfl, rfl⟩, rfl, rfl, (by intro e he; cases he), .nil⟩, .nil⟩
  exact hQ _ _ _ _ (h _ h1) S2 T2 rfl
end
section
variable {C : Cx} {n : Nat} {env : Env} {m : Vars} {σ : AH} {P : V → AH → Prop}

theorem append_isL {A : Around} {s : Shared} {E : Value → Shared → Prop} {Q : Value → Shared → Prop} {l : Addr} {xs : Array Value} {k : Nat} {x : Value} (hl : IsL s.heap l xs k) (hsz : xs.size ≤ 100000)
    (h : Q .none { s with heap := s.heap.update l (Obj.mapSeq (·.push x)) }) : wpAny C.M A (call (.builtin "list.append") [.ref l, x]) Q E s := by
  refine wpAny_call_entry slot_list_append hl.isList.typeIs entry_list_append ?_ (args_list_append _ _)
  show wpAny _ _ (updateSeq l (·.push x) >>= fun _ => ret .none) _ _ s
  exact wpAny_bind (wpAny_updateSeq hl rfl (wpAny_pure ⟨.none, rfl, h⟩) (size_line hsz) (by rw [Array.size_push]; have := size_line hsz; omega))

-- scopes of comprehensions
noncomputable def relabelS (scope sc : Scope) : Scope :=
  { scope with names := scope.names.map fun (n, k) => if (k == .free && sc.kind == .function && sc.names.lookup n == some .cell) then (n, .cell) else (n, k) }
theorem relabel_of {scope sc : Scope} (h : env.scope = sc) : relabel scope env = relabelS scope sc := by subst h; rfl

noncomputable def closeL (cells : List (Str × Addr)) : List (Str × NameKind) → List (Str × Addr) → List (Str × Addr)
  | [], acc => acc
  | (x, k) :: r, acc => closeL cells r (if k == .free then (x, (cells.lookup x).getD 0) :: acc else acc)
theorem closureFor_some {scope : Scope} (h : ∀ x ∈ scope.names, x.2 = .free → (env.cells.lookup x.1).isSome = true) : closureFor scope env = pure (closeL env.cells scope.names []) := by
  unfold closureFor
  have key : ∀ (names : List (Str × NameKind)) (acc : List (Str × Addr)), (∀ x ∈ names, x.2 = .free → (env.cells.lookup x.1).isSome = true) →
      (forIn names acc (fun x r => match x with
        | (name, kind) => if kind == NameKind.free then do let c ← cellOf env name; pure (ForInStep.yield ((name, c) :: r)) else pure (ForInStep.yield r)) : Sem (List (Str × Addr))) = pure (closeL env.cells names acc) := by
    intro names
    induction names with
    | nil => intro acc _; rfl
    | cons x names ih =>
      intro acc hx
      obtain ⟨y, k⟩ := x
      rw [List.forIn_cons, closeL]
      by_cases hk : (k == NameKind.free) = true
      · have hs := hx (y, k) (.head _) (by simpa using hk)
        obtain ⟨c, hc⟩ := Option.isSome_iff_exists.mp hs
        have e : cellOf env y = pure c := by unfold cellOf; dsimp only at hc; rw [hc]
        simp only [hk, if_true, e]
        dsimp only at hc
        rw [hc]
        exact ih _ fun z hz => hx z (.tail _ hz)
      · simp only [hk]
        exact ih _ fun z hz => hx z (.tail _ hz)
  show (forIn scope.names [] _ >>= _) = _
  refine (congrArg (fun t => t >>= _) (key scope.names [] h)).trans ?_
  rfl
theorem closeL_look {cells : List (Str × Addr)} : ∀ (names : List (Str × NameKind)) (acc : List (Str × Addr)), (∀ x ∈ names, x.2 = .free → (cells.lookup x.1).isSome = true) → (∀ y c, acc.lookup y = some c → cells.lookup y = some c) → ∀ y c, (closeL cells names acc).lookup y = some c → cells.lookup y = some c
  | [], acc, _, ha, y, c, e => ha y c e
  | (x, k) :: r, acc, hs, ha, y, c, e => by
    rw [closeL] at e
    refine closeL_look r _ (fun z hz => hs z (.tail _ hz)) ?_ y c e
    intro y c e
    split at e
    · rename_i hk
      rw [List.lookup_cons] at e
      cases hb : y == x with
      | true =>
        rw [hb] at e; cases e
        have hx := beq_iff_eq.mp hb
        obtain ⟨c, hc⟩ := Option.isSome_iff_exists.mp (hs (x, k) (.head _) (by simpa using hk))
        dsimp only at hc
        rw [hx, hc]; rfl
      | false => rw [hb] at e; exact ha y c e
    · exact ha y c e
theorem closeL_acc {cells : List (Str × Addr)} : ∀ (names : List (Str × NameKind)) (acc : List (Str × Addr)) (y : Str), (acc.lookup y).isSome = true → ((closeL cells names acc).lookup y).isSome = true
  | [], acc, y, h => h
  | (x, k) :: r, acc, y, h => by
    rw [closeL]
    refine closeL_acc r _ y ?_
    split
    · rw [List.lookup_cons]
      cases hb : y == x with
      | true => rfl
      | false => exact h
    · exact h
theorem closeL_some {cells : List (Str × Addr)} : ∀ (names : List (Str × NameKind)) (acc : List (Str × Addr)) (y : Str), (y, NameKind.free) ∈ names → ((closeL cells names acc).lookup y).isSome = true
  | (x, k) :: r, acc, y, h => by
    rw [closeL]
    rcases List.mem_cons.mp h with e | h
    · cases e
      refine closeL_acc r _ _ ?_
      simp [List.lookup_cons]
    · exact closeL_some r _ y h

theorem SR.butN {s s' : Shared} {L : Addr} (S : SR C σ s) (hL : σ L = none) (h0 : C.h₀.get? L = none) (ht : ∀ o, s.heap.get? L = some o → NoTup o) (k : ∀ b o, b ≠ L → s.heap.get? b = some o → s'.heap.get? b = some o) (hg : s'.gens = s.gens) (ho : s'.os = s.os) : SR C σ s' := by
  refine ⟨fun b o e => k _ _ ?_ (S.keep b o e), hg.trans S.gens, ho.trans S.os, fun a x e => ⟨ObjR.keep (S.objs a x e).1 (fun b o xs n q c d => k b o ?_ q) (fun o q => k _ _ ?_ q), (S.objs a x e).2⟩⟩
  · rintro rfl; rw [h0] at e; cases e
  · rintro rfl; exact ht o q xs n c d
  · rintro rfl; rw [hL] at e; cases e
theorem tup_butN {h h' : Heap} {L : Addr} (ht : ∀ o, h.get? L = some o → NoTup o) (k : ∀ b o, b ≠ L → h.get? b = some o → h'.get? b = some o) : TupKeep h h' := fun b o xs n e c d => k b o (by rintro rfl; exact ht o e xs n c d) e
theorem FrR.butN {s s' : Shared} {it : Addr} (F : FrR C env m σ s) (nL : it ≠ env.locals) (nC : ∀ x, env.cells.lookup x ≠ some it) (ht : ∀ o, s.heap.get? it = some o → NoTup o) (k : ∀ b o, b ≠ it → s.heap.get? b = some o → s'.heap.get? b = some o) : FrR C env m σ s' := by
  have tk : TupKeep s.heap s'.heap := tup_butN ht k
  obtain ⟨mm, oL, es, ep, hL, hLd, q⟩ := F.ns
  have kl : ∀ o, s.heap.get? env.locals = some o → s'.heap.get? env.locals = some o := fun o e => k _ _ (Ne.symm nL) e
  have nc : ∀ y c o, env.cells.lookup y = some c → s.heap.get? c = some o → s'.heap.get? c = some o := fun y c o e q => k c o (by rintro rfl; exact nC y e) q
  refine ⟨F.ok, fun y v e => (F.vars y v e).keep tk kl nc, ⟨mm, oL, es, ep, kl _ hL, hLd, q⟩, F.new, F.off, fun y c e => ?_, F.apart⟩
  obtain ⟨⟨ov, o, ho, q⟩, h1, h2⟩ := F.cells y c e
  exact ⟨⟨ov, o, nc y c o e ho, q⟩, h1, h2⟩
theorem Step.butN {σ' : AH} {s s₁ s₂ : Shared} {it : Addr} (T : Step σ s σ' s₁) (hn : s.heap.get? it = none) (k : ∀ b o, b ≠ it → s₁.heap.get? b = some o → s₂.heap.get? b = some o) : Step σ s σ' s₂ :=
  ⟨fun b o e e1 => k b o (by rintro rfl; rw [hn] at e; cases e) (T.keep b o e e1), T.dom, T.mono⟩
theorem FrR.nL {s : Shared} {it : Addr} (F : FrR C env m σ s) (h : ∀ mm, ¬ s.heap.Ns it mm) : it ≠ env.locals := by
  rintro rfl; obtain ⟨mm, q⟩ := F.ns; exact h mm q

/-- a local name of the frame is stored -/
theorem wp_storeL {A : Around} {s : Shared} {E : Value → Shared → Prop} {Q : Unit → Shared → Prop} {x : Str} {v : V} {y : Value} (S : SR C σ s) (F : FrR C env m σ s) (hv : VR s.heap v y)
    (hk : env.kindOf x = some .local) (hd : (x == ("__debug__" : Str)) = false)
    (h : ∀ s', SR C σ s' → FrR C env ((x, v) :: m) σ s' → (∀ b o, b ≠ env.locals → s.heap.get? b = some o → s'.heap.get? b = some o) → (∃ mm, s'.heap.Ns env.locals mm) → Q () s') : wpAny C.M A (storeName env x y) Q E s := by
  obtain ⟨mm, hn⟩ := F.ns
  refine wpAny_storeName_local hk hn (fun h' hn' hs => ?_) (by rw [F.ok.kind]; rfl)
  have k : ∀ b o, b ≠ env.locals → s.heap.get? b = some o → h'.get? b = some o := fun b o nb e => (hs.2 b nb).trans e
  have tk : TupKeep s.heap h' := F.tup (s' := { s with heap := h' }) k
  have kc : ∀ y c o, env.cells.lookup y = some c → s.heap.get? c = some o → h'.get? c = some o := fun y c o e q => by
    obtain ⟨⟨ov, hcell⟩, _⟩ := F.cells y c e
    exact k c o (cell_ne_ns hn hcell) q
  refine h _ (S.but (L := env.locals) F.off F.new (fun o xs q e hd' => ?_) k rfl rfl) ⟨F.ok, fun z u e => ?_, ⟨_, hn'⟩, F.new, F.off, fun z c e => ?_, F.apart⟩ k ⟨_, hn'⟩
  · obtain ⟨o', es, ep, ho, hd, _⟩ := hn
    rw [e] at ho; cases ho; rw [hd'] at hd; cases hd
  · rw [List.lookup_cons] at e
    cases hb : z == x with
    | true =>
      rw [hb] at e; cases e
      obtain rfl := beq_iff_eq.mp hb
      exact ⟨hd, .inl ⟨hk, _, y, hn', if_pos rfl, hv.keep tk⟩⟩
    | false =>
      rw [hb] at e
      obtain ⟨e1, q⟩ := F.vars z u e
      refine ⟨e1, ?_⟩
      rcases q with ⟨k1, m1, y1, hm1, ey, r⟩ | ⟨k1, c, y1, ec, hcell, r⟩ | ⟨k1, k2, c, y1, ec, hcell, r⟩
      · refine .inl ⟨k1, _, y1, hn', ?_, r.keep tk⟩
        rw [if_neg (by simpa using hb), Ns_unique hn hm1]; exact ey
      · obtain ⟨o, ho, q⟩ := hcell
        exact .inr (.inl ⟨k1, c, y1, ec, ⟨o, kc z c o ec ho, q⟩, r.keep tk⟩)
      · obtain ⟨o, ho, q⟩ := hcell
        exact .inr (.inr ⟨k1, k2, c, y1, ec, ⟨o, kc z c o ec ho, q⟩, r.keep tk⟩)
  · obtain ⟨⟨ov, o, ho, q⟩, h1, h2⟩ := F.cells z c e
    exact ⟨⟨ov, o, kc z c o e ho, q⟩, h1, h2⟩

/-- the tests of a comprehension -/
noncomputable abbrev Tsts (C : Cx) (n : Nat) (env : Env) (m : Vars) (ifs : List Expr) (σ : AH) (PB : Bool → AH → Prop) : Prop :=
  W C n (FrR C env m) (fun _ (a b : Bool) => a = b) (forIn ifs true fun c r => if r = true then do let ok ← isTrue c env (eval c env); pure (ForInStep.yield ok) else pure (ForInStep.yield r)) σ PB
theorem Ts_nil {PB : Bool → AH → Prop} (h : PB true σ) : Tsts C n env m [] σ PB := fun A s R S F E Q hQ => wpAny_tests_nil (hQ true true σ s h S (Step.refl _ _) rfl)
theorem Ts_one {c : Expr} {PB : Bool → AH → Prop} (h : Tst C n env m c σ PB) : Tsts C n env m [c] σ PB := fun A s R S F E Q hQ => wpAny_tests_one (h A s R S F E Q hQ)
end
section
variable {C : Cx} {n : Nat} {env : Env} {m : Vars} {σ : AH} {P : V → AH → Prop}

theorem ns_NoTup {h : Heap} {a : Addr} {mm : Str → Option Value} (x : h.Ns a mm) : ∀ o, h.get? a = some o → NoTup o := fun o e => by
  obtain ⟨o', es, ep, ho, hd, _⟩ := x
  rw [e] at ho; cases ho
  exact .of_dict hd
theorem cell_NoTup {h : Heap} {a : Addr} {ov : Option Value} (x : h.IsCell a ov) : ∀ o, h.get? a = some o → NoTup o := fun o e => by
  obtain ⟨o', ho, hd⟩ := x
  rw [e] at ho; cases ho
  intro xs n _ q; rw [q] at hd; cases hd

/-- the state within a comprehension -/
structure CompSt (C : Cx) (env cenv : Env) (m mc : Vars) (σ1 : AH) (s1 : Shared) (it D : Addr) (St : Nat → Heap → Prop) (cond : AH → Prop) (i : Nat) (acc : List V) (σ : AH) (s : Shared) : Prop where
  st : St i s.heap
  S : SR C σ s
  F : FrR C env m σ s
  Fc : FrR C cenv mc σ s
  T : Step σ1 s1 σ s
  c : cond σ
  offI : σ it = none
  offD : σ D = none
  acc : ∃ xs k, IsL s.heap D xs k ∧ VRs s.heap acc xs.toList

/-- what a comprehension needs of its scopes -/
structure CompSc (scope sc sc' : Scope) (x : Str) (mc : List Str) : Prop where
  rel : relabelS scope sc = sc'
  nocell : ∀ y ∈ scope.names, y.2 ≠ .cell
  kind : scope.kind = .function
  names : ∀ y ∈ scope.names, y.2 = .local → scope.names.lookup y.1 = some .local
  tgt : sc'.names.lookup x = some .local
  nd : (x == ("__debug__" : Str)) = false
  free : ∀ y ∈ scope.names, y.2 = .free → sc.names.lookup y.1 = some .cell
  caps : ∀ y ∈ mc, (y, NameKind.free) ∈ scope.names ∧ sc'.names.lookup y = some .cell ∧ sc.names.lookup y = some .cell

theorem comp_core {A : Around} {s1 : Shared} {σ1 : AH} {elt iter : Expr} {x : Str} {px pos : Pos} {ifs : List Expr} {scope sc sc' : Scope} {v : V} {y : Value} {mc : Vars} {items : List V} {cond : AH → Prop} {RR : Value → Addr → Result → Shared → Prop} {E : Value → Shared → Prop} {I : List V → List V → AH → Prop}
    (ok : C.Ok) (hsc : env.scope = sc) (hcs : CompSc scope sc sc' x (mc.map (·.1))) (hcell : ∀ z, sc.names.lookup z = some .cell → (env.cells.lookup z).isSome = true)
    (R : Room n A) (S1 : SR C σ1 s1) (F1 : FrR C env m σ1 s1) (V1 : VR s1.heap v y) (hmc : Sub mc m) (src : Src C v σ1 items cond) (hc : cond σ1) (hI : I items [] σ1)
    (turn : ∀ cenv v rest acc σ', cenv.scope = sc' → I (v :: rest) acc σ' → cond σ' →
      Tsts C n cenv ((x, v) :: mc) ifs σ' (fun b σ2 => (b = true → Ev C n cenv ((x, v) :: mc) elt σ2 (fun u σ3 => cond σ3 ∧ acc.length ≤ 90000 ∧ I rest (acc ++ [u]) σ3)) ∧ (b = false → cond σ2 ∧ I rest acc σ2)))
    (fin : ∀ D Cc acc σ' s', I [] acc σ' → cond σ' → σ' D = none → SR C (upd σ' D (.list acc)) s' → Step σ1 s1 (upd σ' D (.list acc)) s' → FrR C env m (upd σ' D (.list acc)) s' → s1.heap.get? Cc = none → upd σ' D (.list acc) Cc = none → C.h₀.get? Cc = none →
      Cc ≠ env.locals → (∀ x, env.cells.lookup x ≠ some Cc) → (∃ mm, s'.heap.Ns Cc mm) → RR (.ref D) Cc (.ok .next) s') :
    wpAny C.M A (pyIter y) (fun it s₂ => wpAny C.M A (newList []) (fun acc s₃ => wpAny C.M A (newFunctionEnv scope env.globals (closeL env.cells scope.names []) [] env.qual none .none (some env)) (fun cenv s₄ =>
      codeAny C.M A (.compStart (.ListComp elt [⟨.Name x px, iter, ifs, 0⟩] scope pos) 0 it acc { cenv with scope := relabel scope env }) (RR acc cenv.locals) s₄) E s₃) E s₂) E s1 := by
  refine src A s1 y S1 V1 E _ ?_
  intro St oi hit hst
  have hn1 : s1.heap.get? s1.heap.objs.size = none := get_size _
  have offI := (S1.none_of_size hn1)
  have S2 : SR C σ1 { s1 with heap := s1.heap.push oi } := S1.grow (push_keep _) rfl rfl
  have T2 : Step σ1 s1 σ1 { s1 with heap := s1.heap.push oi } := Step.grow (push_keep _)
  have F2 := F1.step S1 T2
  have hnD0 : (s1.heap.push oi).get? (s1.heap.push oi).objs.size = none := get_size _
  have below1 : ∀ b, s1.heap.objs.size ≤ b → s1.heap.get? b = none := fun b hb => get_none hb
  have szD : (s1.heap.push oi).objs.size = s1.heap.objs.size + 1 := Heap.size_push ..
  refine wpAny_newObj_type (wpAny_newFunctionEnv hcs.nocell (by intro y hy; simp at hy) (fun h₁ hns₁ hsb₁ => ?_) hcs.kind)
  dsimp only at hns₁ hsb₁ ⊢
  generalize hit' : s1.heap.objs.size = it at *
  generalize hD : (s1.heap.push oi).objs.size = D at *
  generalize hH2 : (s1.heap.push oi).push { cls := .type "list", dict := none, data := .seq ([] : List Value).toArray } = H2 at *
  have szC : H2.objs.size = it + 1 + 1 := by rw [← hH2, Heap.size_push, hD, szD]
  have eDI : D = it + 1 := szD
  generalize hCc : H2.objs.size = Cc at *
  have old : ∀ b o, b ≠ Cc → H2.get? b = some o → h₁.get? b = some o := fun b o nb e => hsb₁.extBut b o nb (Heap.get?_push_of_some _ e)
  have old1 : ∀ b o, (s1.heap.push oi).get? b = some o → h₁.get? b = some o := fun b o e => by
    have hlt := Heap.lt_size e
    rw [hD, eDI] at hlt
    exact old b o (by rintro rfl; rw [szC] at hlt; exact absurd hlt (Nat.not_lt.mpr (Nat.le_succ _))) (by rw [← hH2]; exact push_keep _ _ _ e)
  have nDC : D ≠ Cc := by rw [eDI, szC]; exact (Nat.succ_ne_self _).symm
  have nIC : it ≠ Cc := by rw [szC]; intro e; exact absurd (show it < it from Nat.lt_of_lt_of_eq (Nat.lt_succ_of_lt (Nat.lt_succ_self it)) e.symm) (Nat.lt_irrefl _)
  have nID : it ≠ D := by rw [eDI]; exact (Nat.succ_ne_self _).symm
  have hDn : (s1.heap.push oi).get? D = none := hnD0
  have hCn : (s1.heap.push oi).get? Cc = none := get_none (by rw [hD, eDI, szC]; exact Nat.le_succ _)
  have offD := S2.none_of_size hDn
  have offC := S2.none_of_size hCn
  have hD1 : s1.heap.get? D = none := below1 D (by rw [eDI]; exact Nat.le_succ _)
  have hC1 : s1.heap.get? Cc = none := below1 Cc (by rw [szC]; exact Nat.le_succ_of_le (Nat.le_succ _))
  -- the state at the loop's beginning
  have S3 : SR C σ1 { s1 with heap := h₁, toks := s1.toks + ([] : List (Str × Value)).length } := S2.grow (fun b o e => old1 b o e) rfl rfl
  have T3 : Step σ1 s1 σ1 { s1 with heap := h₁, toks := s1.toks + ([] : List (Str × Value)).length } := T2.trans (Step.grow fun b o e => old1 b o e)
  have F3 : FrR C env m σ1 { s1 with heap := h₁, toks := s1.toks + ([] : List (Str × Value)).length } := F1.step S1 T3
  have nLC : Cc ≠ env.locals := by
    rintro rfl; obtain ⟨mm, o, es, ep, ho, _⟩ := F1.ns; rw [hC1] at ho; cases ho
  have nCC : ∀ x, env.cells.lookup x ≠ some Cc := fun x e => by
    obtain ⟨⟨ov, o, ho, _⟩, _⟩ := F1.cells x Cc e; rw [hC1] at ho; cases ho
  have nLD : D ≠ env.locals := by
    rintro rfl; obtain ⟨mm, o, es, ep, ho, _⟩ := F1.ns; rw [hD1] at ho; cases ho
  have nCD : ∀ x, env.cells.lookup x ≠ some D := fun x e => by
    obtain ⟨⟨ov, o, ho, _⟩, _⟩ := F1.cells x D e; rw [hD1] at ho; cases ho
  have nLI : it ≠ env.locals := by
    rintro rfl; obtain ⟨mm, o, es, ep, ho, _⟩ := F1.ns; rw [hn1] at ho; cases ho
  have nCI : ∀ x, env.cells.lookup x ≠ some it := fun x e => by
    obtain ⟨⟨ov, o, ho, _⟩, _⟩ := F1.cells x it e; rw [hn1] at ho; cases ho
  have hst3 : St 0 h₁ := hit.keep _ _ _ hst (TupKeep.of_keep old1) fun o e => old1 _ _ e
  have hD3 : IsL h₁ D #[] 0 := old D _ nDC (by rw [← hH2, ← hD]; exact Heap.get?_push_size _ rfl)
  -- the inner frame
  have hfree : ∀ z ∈ scope.names, z.2 = .free → (env.cells.lookup z.1).isSome = true := fun z hz hk => hcell _ (hcs.free z hz hk)
  have hcl : ∀ z c, (closeL env.cells scope.names []).lookup z = some c → env.cells.lookup z = some c := closeL_look scope.names [] hfree (fun _ _ e => by cases e)
  show codeAny C.M A (.compStart _ 0 (.ref it) (.ref D) (compEnvC scope (closeL env.cells scope.names []) Cc env)) (RR (.ref D) Cc) _
  have hscope : (compEnvC scope (closeL env.cells scope.names []) Cc env).scope = sc' := (relabel_of hsc).trans hcs.rel
  have hloc : (compEnvC scope (closeL env.cells scope.names []) Cc env).locals = Cc := rfl
  have hcells : (compEnvC scope (closeL env.cells scope.names []) Cc env).cells = closeL env.cells scope.names [] := rfl
  have hglob : (compEnvC scope (closeL env.cells scope.names []) Cc env).globals = mainGlobals := F1.ok.glob
  have hblt : (compEnvC scope (closeL env.cells scope.names []) Cc env).builtins = builtinsNs := F1.ok.blt
  have hkind : (compEnvC scope (closeL env.cells scope.names []) Cc env).scope.kind = .function := hcs.kind
  generalize compEnvC scope (closeL env.cells scope.names []) Cc env = cenv at *
  have Fc3 : FrR C cenv mc σ1 { s1 with heap := h₁, toks := s1.toks + ([] : List (Str × Value)).length } := by
    refine ⟨⟨hkind, hglob, hblt⟩, fun z u e => ?_, ⟨_, by rw [hloc]; exact hns₁⟩, by rw [hloc]; exact offC.2, by rw [hloc]; exact offC.1, fun z c e => ?_, fun z z' c e e' => ?_⟩
    · have hz : z ∈ mc.map (·.1) := List.mem_map_of_mem (f := (·.1)) (mem_of_lookup e)
      obtain ⟨q1, q2, q3⟩ := hcs.caps z hz
      obtain ⟨nd, hv⟩ := F3.vars z u (hmc z u e)
      have hk : env.kindOf z = some .cell := kind_of hsc q3
      refine ⟨nd, .inr (.inl ?_)⟩
      obtain ⟨c, hc⟩ := Option.isSome_iff_exists.mp (closeL_some (cells := env.cells) scope.names [] z q1)
      refine ⟨kind_of hscope q2, c, ?_⟩
      rcases hv with ⟨k, _⟩ | ⟨k, c', y', ec, hcell', r⟩ | ⟨k, _⟩
      · rw [hk] at k; cases k
      · have := hcl z c hc
        rw [ec] at this; cases this
        exact ⟨y', by rw [hcells]; exact hc, hcell', r⟩
      · rw [hk] at k; cases k
    · rw [hcells] at e; exact F3.cells z c (hcl z c e)
    · rw [hcells] at e e'; exact F3.apart z z' c (hcl _ _ e) (hcl _ _ e')
  -- the loop
  have loop : codeAny C.M A (.compLoop (.ListComp elt [⟨.Name x px, iter, ifs, 0⟩] scope pos) 0 (.ref it) (.ref D) cenv) (RR (.ref D) Cc) { s1 with heap := h₁, toks := s1.toks + ([] : List (Str × Value)).length } := by
    refine codeAny_compLoop_tests (fun k s' => ∃ i acc mc' σ', i ≤ items.length ∧ k = items.length - i ∧ Sub mc mc' ∧ I (items.drop i) acc σ' ∧ CompSt C env cenv m mc' σ1 s1 it D St cond i acc σ' s') ?_ items.length
      ⟨0, [], mc, σ1, Nat.zero_le _, rfl, Sub.refl _, hI, hst3, S3, F3, Fc3, T3, hc, offI.1, offD.1, #[], 0, hD3, .nil⟩
    rintro k s2 ⟨i, acc, mc2, σ2, hi, rfl, hsub, hI2, L⟩
    have hth := hit.there _ _ L.st
    have ntI : ∀ o, s2.heap.get? it = some o → NoTup o := fun o e xs n _ q => by
      obtain ⟨o', vs, ho, hd⟩ := hth
      rw [e] at ho; cases ho; rw [hd] at q; cases q
    have nLI' : it ≠ cenv.locals := by rw [hloc]; exact nIC
    have nCI' : ∀ x, cenv.cells.lookup x ≠ some it := fun x e => by rw [hcells] at e; exact nCI x (hcl _ _ e)
    cases hv : items[i]? with
    | none =>
      refine hit.fin R.1 L.S L.c L.st hv fun h' hs' => ?_
      have k : ∀ b o, b ≠ it → s2.heap.get? b = some o → h'.get? b = some o := fun b o nb e => hs' b o nb e
      have tk := tup_butN ntI k
      have S4 : SR C σ2 { s2 with heap := h' } := L.S.butN L.offI offI.2 ntI k rfl rfl
      have F4 : FrR C env m σ2 { s2 with heap := h' } := L.F.butN nLI nCI ntI k
      have T4 : Step σ1 s1 σ2 { s2 with heap := h' } := L.T.butN hn1 k
      have hi' : items.length ≤ i := List.getElem?_eq_none_iff.mp hv
      rw [List.drop_eq_nil_of_le hi'] at hI2
      obtain ⟨xs, kk, hx, rx⟩ := L.acc
      have hx' : IsL h' D xs kk := k D _ nID.symm hx
      obtain ⟨mm, hm⟩ := L.Fc.ns
      rw [hloc] at hm
      have hm' : h'.Ns Cc mm := by obtain ⟨o, es, ep, ho, q⟩ := hm; exact ⟨o, es, ep, k _ _ nIC.symm ho, q⟩
      have offC2 : σ2 Cc = none := by have := L.Fc.off; rw [hloc] at this; exact this
      have S5 : SR C (upd σ2 D (.list acc)) { s2 with heap := h' } := ⟨S4.keep, S4.gens, S4.os, fun a y e => by
        by_cases ha : a = D
        · subst ha
          rw [upd_same] at e; cases e
          refine ⟨⟨xs, kk, hx', rx.keep tk⟩, offD.2, ?_⟩
          intro q
          have := S1.big ok
          rw [hit'] at this
          rw [eDI] at q
          have q' : it + 1 = 1 := q
          omega
        · rw [upd_other ha] at e; exact S4.objs a y e⟩
      have T45 : Step σ2 { s2 with heap := h' } (upd σ2 D (.list acc)) { s2 with heap := h' } → True := fun _ => trivial
      have T5 : Step σ1 s1 (upd σ2 D (.list acc)) { s2 with heap := h' } := ⟨T4.keep, fun b q => by
        by_cases hb : b = D
        · subst hb; exact .inr hD1
        · rw [upd_other hb] at q; exact T4.dom b q, fun b q => by
        by_cases hb : b = D
        · subst hb; rw [upd_same]; exact Option.some_ne_none _
        · rw [upd_other hb]; exact T4.mono b q⟩
      have F5 : FrR C env m (upd σ2 D (.list acc)) { s2 with heap := h' } := ⟨F4.ok, F4.vars, F4.ns, F4.new, by rw [upd_other nLD.symm]; exact F4.off, fun z c e => ⟨(F4.cells z c e).1, (F4.cells z c e).2.1, by rw [upd_other (show c ≠ D from fun q => nCD z (by rw [e, q]))]; exact (F4.cells z c e).2.2⟩, F4.apart⟩
      exact fin D Cc acc σ2 _ hI2 L.c L.offD S5 T5 F5 hC1 (by rw [upd_other nDC.symm]; exact offC2) offC.2 nLC nCC ⟨mm, hm'⟩
    | some v =>
      have hlt : i < items.length := (List.getElem?_eq_some_iff.mp hv).1
      refine hit.item R.1 L.S L.c L.st hv fun y h' tk ry hst' hs' => ?_
      have k : ∀ b o, b ≠ it → s2.heap.get? b = some o → h'.get? b = some o := fun b o nb e => (hs'.2 b nb).trans e
      have tkp := tup_butN ntI k
      have S4 : SR C σ2 { s2 with heap := h', toks := tk } := L.S.butN L.offI offI.2 ntI k rfl rfl
      have F4 : FrR C env m σ2 { s2 with heap := h', toks := tk } := L.F.butN nLI nCI ntI k
      have Fc4 : FrR C cenv mc2 σ2 { s2 with heap := h', toks := tk } := L.Fc.butN nLI' nCI' ntI k
      have T4 : Step σ1 s1 σ2 { s2 with heap := h', toks := tk } := L.T.butN hn1 k
      obtain ⟨xs, kk, hx, rx⟩ := L.acc
      have hx4 : IsL h' D xs kk := k D _ nID.symm hx
      have rx4 := rx.keep tkp
      refine wpAny_assign_Name (wp_storeL S4 Fc4 (ry.keep tkp) (kind_of hscope hcs.tgt) hcs.nd fun s5 S5 Fc5 k5 _ => ?_)
      rw [hloc] at k5
      have ntC : ∀ o, h'.get? Cc = some o → NoTup o := by obtain ⟨mm, q⟩ := Fc4.ns; rw [hloc] at q; exact ns_NoTup q
      have tk5 : TupKeep h' s5.heap := tup_butN ntC k5
      have F5 : FrR C env m σ2 s5 := F4.butN nLC nCC ntC k5
      have T5 : Step σ1 s1 σ2 s5 := T4.butN hC1 k5
      have hx5 : IsL s5.heap D xs kk := k5 D _ nDC hx4
      have rx5 := rx4.keep tk5
      have st5 : St (i + 1) s5.heap := hit.keep _ _ _ hst' tk5 fun o e => k5 _ _ nIC e
      have hdrop : items.drop i = v :: items.drop (i + 1) := by
        rw [List.drop_eq_getElem_cons hlt]
        rw [List.getElem?_eq_getElem hlt] at hv
        rw [Option.some.inj hv]
      rw [hdrop] at hI2
      have Fc5' := Fc5.sub (m' := (x, v) :: mc) (Sub.under hsub)
      have subx : Sub mc ((x, v) :: mc) := fun z u e => by
        rw [List.lookup_cons]
        cases hb : z == x with
        | false => exact e
        | true =>
          exfalso
          obtain rfl := beq_iff_eq.mp hb
          obtain ⟨q1, q2, q3⟩ := hcs.caps z (List.mem_map_of_mem (f := (·.1)) (mem_of_lookup e))
          rw [hcs.tgt] at q2; cases q2
      refine turn cenv v _ acc σ2 hscope hI2 L.c A s5 R S5 Fc5' _ _ ?_
      rintro b c σ6 s6 ⟨ht, hf⟩ S6 T6 rfl
      have offI6 : σ6 it = none := by obtain ⟨o, vs, ho, _⟩ := hit.there _ _ st5; exact T6.off ho L.offI
      have offD6 : σ6 D = none := T6.off hx5 L.offD
      have st6 : St (i + 1) s6.heap := hit.keep _ _ _ st5 (T6.tup S5) fun o e => T6.keep _ _ e L.offI
      have F6 := F5.step S5 T6
      have Fc6 := Fc5'.step S5 T6
      have hx6 : IsL s6.heap D xs kk := T6.keep _ _ hx5 L.offD
      have rx6 := rx5.keep (T6.tup S5)
      cases b with
      | false =>
        simp only [Bool.false_eq_true, if_false]
        obtain ⟨hc6, hI6⟩ := hf rfl
        exact ⟨_, by omega, i + 1, acc, (x, v) :: mc, σ6, hlt, rfl, subx, hI6, st6, S6, F6, Fc6, T5.trans T6, hc6, offI6, offD6, xs, kk, hx6, rx6⟩
      | true =>
        simp only [if_true]
        refine ht rfl A s6 R S6 Fc6 _ _ ?_
        rintro u z σ7 s7 ⟨hc7, hacc, hI7⟩ S7 T7 V7
        have offI7 : σ7 it = none := by obtain ⟨o, vs, ho, _⟩ := hit.there _ _ st6; exact T7.off ho offI6
        have offD7 : σ7 D = none := T7.off hx6 offD6
        have st7 : St (i + 1) s7.heap := hit.keep _ _ _ st6 (T7.tup S6) fun o e => T7.keep _ _ e offI6
        have F7 := F6.step S6 T7
        have Fc7 := Fc6.step S6 T7
        have hx7 : IsL s7.heap D xs kk := T7.keep _ _ hx6 offD6
        have rx7 := rx6.keep (T7.tup S6)
        have T17 := (T5.trans T6).trans T7
        refine append_isL hx7 (by rw [size_of rx7]; omega) ?_
        have k8 : ∀ b o, b ≠ D → s7.heap.get? b = some o → (s7.heap.update D (Obj.mapSeq (·.push z))).get? b = some o := fun b o nb e => (Heap.get?_update_other _ _ nb.symm).trans e
        have ntD : ∀ o, s7.heap.get? D = some o → NoTup o := fun o e => .of_cls (by rw [show s7.heap.get? D = _ from hx7] at e; cases e; show Value.type "list" ≠ Value.type "tuple"; decide)
        have tk8 := tup_butN ntD k8
        have S8 : SR C σ7 { s7 with heap := s7.heap.update D (Obj.mapSeq (·.push z)) } := S7.butN offD7 offD.2 ntD k8 rfl rfl
        have F8 : FrR C env m σ7 { s7 with heap := s7.heap.update D (Obj.mapSeq (·.push z)) } := F7.butN nLD nCD ntD k8
        have Fc8 : FrR C cenv ((x, v) :: mc) σ7 { s7 with heap := s7.heap.update D (Obj.mapSeq (·.push z)) } := Fc7.butN (by rw [hloc]; exact nDC) (fun x e => by rw [hcells] at e; exact nCD x (hcl _ _ e)) ntD k8
        have T8 : Step σ1 s1 σ7 { s7 with heap := s7.heap.update D (Obj.mapSeq (·.push z)) } := T17.butN hD1 k8
        have st8 : St (i + 1) (s7.heap.update D (Obj.mapSeq (·.push z))) := hit.keep _ _ _ st7 tk8 fun o e => k8 _ _ nID e
        exact ⟨_, by omega, i + 1, acc ++ [u], (x, v) :: mc, σ7, hlt, rfl, subx, hI7, st8, S8, F8, Fc8, T8, hc7, offI7, offD7, xs.push z, _, IsL.update hx7 _, by
          rw [Array.toList_push]; exact (rx7.keep tk8).append (VRs.one (V7.keep tk8))⟩
  exact codeAny_compStart_list loop (hit.self hst3 loop)

/-- what is said of a comprehension -/
noncomputable def CompSay (C : Cx) (n : Nat) (env : Env) (m : Vars) (elt iter : Expr) (x : Str) (ifs : List Expr) (scope sc sc' : Scope) (σ : AH) (P : Addr → AH → Prop) : Prop :=
  Ev C n env m iter σ (fun v σ1 => ∃ (I : List V → List V → AH → Prop) (mc : Vars) (items : List V) (cond : AH → Prop), CompSc scope sc sc' x (mc.map (·.1)) ∧ Sub mc m ∧ Src C v σ1 items cond ∧ cond σ1 ∧ I items [] σ1 ∧
    (∀ cenv v rest acc σ', cenv.scope = sc' → I (v :: rest) acc σ' → cond σ' →
      Tsts C n cenv ((x, v) :: mc) ifs σ' (fun b σ2 => (b = true → Ev C n cenv ((x, v) :: mc) elt σ2 (fun u σ3 => cond σ3 ∧ acc.length ≤ 90000 ∧ I rest (acc ++ [u]) σ3)) ∧ (b = false → cond σ2 ∧ I rest acc σ2))) ∧
    (∀ acc σ', I [] acc σ' → cond σ' → ∀ D, σ' D = none → P D (upd σ' D (.list acc))))

theorem E_comp {elt iter : Expr} {x : Str} {px pos : Pos} {ifs : List Expr} {scope sc sc' : Scope} (ok : C.Ok) (hsc : env.scope = sc) (hcell : ∀ z, sc.names.lookup z = some .cell → (env.cells.lookup z).isSome = true) (hfree : ∀ y ∈ scope.names, y.2 = .free → sc.names.lookup y.1 = some .cell)
    (hkind : scope.kind = .function) (hnames : ∀ y ∈ scope.names, y.2 = .local → scope.names.lookup y.1 = some .local)
    (h : CompSay C n env m elt iter x ifs scope sc sc' σ (fun D σ' => P (.obj D) σ'))
    (hs : isSet iter = false := by rfl) : Ev C n env m (.ListComp elt [⟨.Name x px, iter, ifs, 0⟩] scope pos) σ P := by
  intro A s R S F E Q hQ
  rw [eval_ListComp]
  refine wpAny_comprehension_free (use := none) rfl (fold_of hs) (closureFor_some fun z hz hk => hcell _ (hfree z hz hk)) hkind hnames (h A s R S F E _ ?_)
  rintro v y σ1 s1 ⟨I, mc, items, cond, hcs, hmc, src, hc, hI, turn, done⟩ S1 T1 V1
  have F1 := F.step S T1
  refine comp_core (RR := fun acc Cc => compPost C.M A E none Q acc Cc) ok hsc hcs hcell R S1 F1 V1 hmc src hc hI turn ?_
  rintro D Cc acc σ' s' hI' hc' hD S' T' F' hC1 offC newC nL nC ⟨mm, hm⟩
  refine ⟨mm, hm, fun h'' hs'' => ?_⟩
  have k : ∀ b o, b ≠ Cc → s'.heap.get? b = some o → h''.get? b = some o := set_keep hs''
  have S2 : SR C (upd σ' D (.list acc)) { s' with heap := h'' } := S'.butN offC newC (ns_NoTup hm) k rfl rfl
  exact hQ _ _ _ _ (done acc σ' hI' hc' D hD) S2 (T1.trans (T'.butN hC1 k)) rfl

theorem X_assign_comp {rest : List Stmt} {P : Out → Vars → AH → Prop} {elt iter : Expr} {x y : Str} {px py pos spos : Pos} {ifs : List Expr} {scope sc sc' : Scope} (ok : C.Ok) (hsc : env.scope = sc) (hcell : ∀ z, sc.names.lookup z = some .cell → (env.cells.lookup z).isSome = true) (hfree : ∀ y ∈ scope.names, y.2 = .free → sc.names.lookup y.1 = some .cell)
    (hkind : scope.kind = .function) (hnames : ∀ y ∈ scope.names, y.2 = .local → scope.names.lookup y.1 = some .local)
    (hy : env.kindOf y = some .local) (hnd : (y == ("__debug__" : Str)) = false)
    (hsw : swapsWith (.ListComp elt [⟨.Name x px, iter, ifs, 0⟩] scope pos) (some (.Name y py)) spos.line env = pure true)
    (h : CompSay C n env m elt iter x ifs scope sc sc' σ (fun D σ' => Ex C n env ((y, .obj D) :: m) rest σ' P))
    (hs : isSet iter = false := by rfl) : Ex C n env m (.Assign [.Name y py] (.ListComp elt [⟨.Name x px, iter, ifs, 0⟩] scope pos) spos :: rest) σ P := by
  refine X_cons fun A s R S F E Q hQ => ?_
  rw [exec_Assign_Name_used _ _ _ _ hsw]
  refine wpAny_bind (wpAny_standAt (wpAny_bind ?_))
  show wpAny _ A (do let _ ← comprehension (.ListComp elt [⟨.Name x px, iter, ifs, 0⟩] scope pos) scope env _ (newList []) false (eval iter env) (some (assign (.Name y py) env))) _ _ s
  refine wpAny_bind (wpAny_mono (wpAny_comprehension_free (use := some (assign (.Name y py) env)) (Q := fun _ s' => Q .next s') rfl (fold_of hs) (closureFor_some fun z hz hk => hcell _ (hfree z hz hk)) hkind hnames
    (h A s R S F E _ ?_)) (fun _ s' hq => wpAny_pure (wpAny_pure hq)) fun _ _ e => e)
  rintro v y' σ1 s1 ⟨I, mc, items, cond, hcs, hmc, src, hc, hI, turn, done⟩ S1 T1 V1
  have F1 := F.step S T1
  refine comp_core (RR := fun acc Cc => compPost C.M A E (some (assign (.Name y py) env)) (fun _ s' => Q .next s') acc Cc) ok hsc hcs hcell R S1 F1 V1 hmc src hc hI turn ?_
  rintro D Cc acc σ' s' hI' hc' hD S' T' F' hC1 offC newC nL nC ⟨mm, hm⟩
  show wpAny _ A (assign (.Name y py) env (.ref D)) _ _ _
  refine wpAny_assign_Name (wp_storeL S' F' (v := .obj D) rfl hy hnd fun s2 S2 F2 k2 _ => ?_)
  have hm2 : s2.heap.Ns Cc mm := by obtain ⟨o, es, ep, ho, q⟩ := hm; exact ⟨o, es, ep, k2 _ _ nL ho, q⟩
  refine ⟨mm, hm2, fun h'' hs'' => ?_⟩
  have k : ∀ b o, b ≠ Cc → s2.heap.get? b = some o → h''.get? b = some o := set_keep hs''
  have S3 : SR C (upd σ' D (.list acc)) { s2 with heap := h'' } := S2.butN offC newC (ns_NoTup hm2) k rfl rfl
  have F3 : FrR C env ((y, .obj D) :: m) (upd σ' D (.list acc)) { s2 with heap := h'' } := F2.butN nL nC (ns_NoTup hm2) k
  have n0 : s.heap.get? Cc = none := by
    cases e : s.heap.get? Cc with
    | none => rfl
    | some o => obtain ⟨o', ho'⟩ := T1.ex S1 e; rw [hC1] at ho'; cases ho'
  have T01 := T1.trans T'
  refine hQ .next _ _ _ _ (done acc σ' hI' hc' D hD) rfl S3 F3 ⟨fun b o e e1 nb _ => k b o (by rintro rfl; rw [n0] at e; cases e) (k2 b o nb (T01.keep b o e e1)), T01.dom, T01.mono⟩
end
-- the text's functions, by their place
noncomputable def stmtAt (i : Nat) : Stmt := (pw.main.body[i]?).getD (.Pass ⟨0, 0, 0, 0⟩)
noncomputable def sBody : Stmt → List Stmt
  | .FunctionDef _ _ body .. => body
  | .ClassDef _ _ _ body .. => body
  | _ => []
noncomputable def sScope : Stmt → Scope
  | .FunctionDef _ _ _ _ _ _ scope .. => scope
  | _ => default
noncomputable def sParams : Stmt → List Str
  | .FunctionDef _ a .. => a.args.map (·.arg)
  | _ => []
noncomputable def methAt (i j : Nat) : Stmt := ((sBody (stmtAt i))[j]?).getD (.Pass ⟨0, 0, 0, 0⟩)

noncomputable def kVar : PyData := .tuple [.str "var"]
noncomputable def kList : PyData := .tuple [.str "list"]
noncomputable def kStruct (n : Int) : PyData := .tuple [.str "struct", .int n]
noncomputable def kConst (t n : Int) : PyData := .tuple [.str "const", .tuple [.int t, .int n]]

noncomputable def AllP {α β : Type} (Q : α → β → Prop) : List (α × β) → Prop
  | [] => True
  | p :: r => Q p.1 p.2 ∧ AllP Q r
theorem AllP.get {α β : Type} [BEq α] [LawfulBEq α] {Q : α → β → Prop} {x : α} {y : β} : ∀ {l : List (α × β)}, AllP Q l → l.lookup x = some y → Q x y
  | [], _, e => by cases e
  | (a, b) :: r, h, e => by
    rw [List.lookup_cons] at e
    cases hb : x == a with
    | true => rw [hb] at e; cases e; rw [beq_iff_eq.mp hb]; exact h.1
    | false => rw [hb] at e; exact AllP.get h.2 e

noncomputable def gV : List (Str × V) := [("VAR_KEY", .dat kVar), ("LIST_KEY", .dat kList), ("FAIL_LABEL", .int (-1)), ("CON", .int 4), ("INT", .int 5)]
noncomputable def gF : List (Str × Addr) := [("fixed_atoms", 61), ("fixed_functors", 68), ("const_key", 168), ("struct_key", 175), ("matching", 182), ("candidates", 189), ("all_variable", 196), ("small_block", 280), ("chain_block", 287), ("index_block", 294), ("clause_groups", 301), ("group_block", 308), ("label_places", 315), ("switch_target", 322), ("table_target", 329), ("tried_clauses", 336), ("sample_keys", 343), ("check_index", 348), ("_law_figures", 376), ("_law_draw", 383), ("_law_any_key", 390), ("_law_spoiled", 397)]
noncomputable def gB : List (Str × Value) := [("range", .type "range"), ("len", .builtin "len"), ("list", .type "list"), ("tuple", .type "tuple"), ("sorted", .builtin "sorted")]
noncomputable def gC : List (Str × Addr × Addr) := [("Symbols", 155, 82), ("BlockBuilder", 269, 210), ("ClauseCode", 365, 362)]
noncomputable def gM : List (Addr × List (Str × Addr)) := [(155, [("atom", 89), ("functor", 103), ("func", 110), ("arity", 124)]), (269, [("fresh_label", 217), ("chain_rows", 224), ("chain", 231), ("matching_places", 238), ("variable_places", 245), ("table", 252), ("switch", 259), ("finish", 266)])]
noncomputable def gA : List (Addr × List (Str × Unit)) := [(155, [("texts", ()), ("atom_numbers", ()), ("functors", ()), ("functor_numbers", ())]), (269, [("arity", ()), ("codes", ()), ("rows", ()), ("chains", ()), ("known", ()), ("next_label", ())]), (365, [("functor", ()), ("key", ()), ("instrs", ()), ("used", ())])]
noncomputable def gN : List (Addr × Stmt) := [(61, stmtAt 4), (68, stmtAt 5), (82, methAt 6 0), (89, methAt 6 1), (103, methAt 6 3), (110, methAt 6 4), (124, methAt 6 6), (168, stmtAt 13), (175, stmtAt 14), (182, stmtAt 15), (189, stmtAt 16), (196, stmtAt 17), (210, methAt 18 0), (217, methAt 18 1), (224, methAt 18 2), (231, methAt 18 3), (238, methAt 18 4), (245, methAt 18 5), (252, methAt 18 6), (259, methAt 18 7), (266, methAt 18 8),
  (280, stmtAt 19), (287, stmtAt 20), (294, stmtAt 21), (301, stmtAt 22), (308, stmtAt 23), (315, stmtAt 24), (322, stmtAt 25), (329, stmtAt 26), (336, stmtAt 27), (343, stmtAt 28), (348, stmtAt 29), (362, methAt 31 0), (376, stmtAt 33), (383, stmtAt 34), (390, stmtAt 35), (397, stmtAt 36)]

/-- what the text's top holds -/
structure Tx (C : Cx) : Prop where
  ok : C.Ok
  v : AllP (GlobV C) gV
  f : AllP (GlobF C) gF
  b : AllP (GlobB C) gB
  c : AllP (fun x p => GlobC C x p.1 p.2) gC
  m : AllP (fun c l => AllP (MethIs C c) l) gM
  p : AllP (fun c _ => PlainCls C c) gA
  a : AllP (fun c l => AllP (fun x _ => NoAttr C c x) l) gA
  n : AllP (fun fa st => FnIs C fa (sParams st) (sBody st) (sScope st)) gN
theorem all_few {pos : Pos} {env : Env} : ∀ {es : List Expr}, noStar es = true → (backTo pos (starEach es env)).all (!·.1) = true
  | [], _ => rfl
  | e :: es, h => by
    have h' : isStar e = false ∧ noStar es = true := by simpa [noStar] using h
    rw [star_cons h'.1]
    show (true && (backTo pos (starEach es env)).all (!·.1)) = true
    rw [all_few h'.2]; rfl
theorem meth_eval {env : Env} {x name : Str} {p apos pos : Pos} {args : List Expr} (hst : noStar args = true) (hl : decide (args.length < 20) = true) (hline : (apos.endLine == pos.line) = true) :
    eval (.Call (.Attribute (.Name x p) name apos) args [] pos) env = (do
      let ov ← eval (.Name x p) env
      standAt apos.atName
      let (f, first) ← holding [ov] (getMethod ov name (do return (← importBound (.Name x p) env).getD true))
      callWith pos f first (backTo pos (starEach args env)) []) := by
  have few : methodCallForm (args.length + 0) (backTo pos (starEach args env)) (backToKw pos (keywordEach [] env)) = true := by
    unfold methodCallForm
    rw [all_few hst]
    have := of_decide_eq_true hl
    show (true && true && decide (args.length + 0 + 0 < 30)) = true
    rw [decide_eq_true (by omega)]; rfl
  show (attributeBase (.Name x p) name env (eval (.Name x p) env) >>= fun ov => standAt apos.atName >>= fun _ => methodCall (.Name x p) name apos pos env ov (args.length + 0) (backTo pos (starEach args env)) (backToKw pos (keywordEach [] env))) = _
  rw [base_of rfl]
  unfold methodCall methodCallPos calleeOf
  rw [few, hline]
  rfl

/-- what was known stands, but for X -/
noncomputable def OldX (X : List Addr) (σ σ' : AH) : Prop := ∀ b y, b ∉ X → σ b = some y → σ' b = some y
noncomputable abbrev Old (σ σ' : AH) : Prop := OldX [] σ σ'
theorem OldX.refl (X : List Addr) (σ : AH) : OldX X σ σ := fun _ _ _ e => e
theorem OldX.trans {X : List Addr} {σ₁ σ₂ σ₃ : AH} (h : OldX X σ₁ σ₂) (k : OldX X σ₂ σ₃) : OldX X σ₁ σ₃ := fun b y hb e => k b y hb (h b y hb e)
theorem OldX.mono {X Y : List Addr} {σ σ' : AH} (h : OldX X σ σ') (k : ∀ b ∈ X, b ∈ Y) : OldX Y σ σ' := fun b y hb e => h b y (fun q => hb (k b q)) e
theorem Old.x {X : List Addr} {σ σ' : AH} (h : Old σ σ') : OldX X σ σ' := h.mono fun b q => by cases q
theorem OldX.new {X : List Addr} {σ σ' : AH} (h : OldX X σ σ') {a : Addr} {x : AObj} (ha : σ' a = none) : OldX X σ (upd σ' a x) := fun b y hb e => upd_old ha (h b y hb e)
theorem OldX.put {X : List Addr} {σ σ' : AH} (h : OldX X σ σ') {a : Addr} {x : AObj} (ha : a ∈ X) : OldX X σ (upd σ' a x) := fun b y hb e => by
  have nb : b ≠ a := by rintro rfl; exact hb ha
  rw [upd_other nb]; exact h b y hb e
/-- the changed are all new -/
theorem OldX.old {X : List Addr} {σ σ' : AH} (h : OldX X σ σ') (k : ∀ b ∈ X, σ b = none) : Old σ σ' := fun b y _ e => h b y (fun q => by rw [k b q] at e; cases e) e
theorem Old.then {X : List Addr} {σ₀ σ σ' : AH} (h : Old σ₀ σ) (k : OldX X σ σ') (f : ∀ b ∈ X, σ₀ b = none) : Old σ₀ σ' := fun b y _ e => k b y (fun q => by rw [f b q] at e; cases e) (h b y (by simp) e)
/-- a is not known in σ -/
theorem OldX.none {X : List Addr} {σ σ' : AH} (h : OldX X σ σ') {a : Addr} (ha : a ∉ X) (e : σ' a = none) : σ a = none := by
  cases q : σ a with
  | none => rfl
  | some y => rw [h a y ha q] at e; cases e

theorem dt {p : Prop} {i : Decidable p} (h : @decide p i = true) : p := @of_decide_eq_true p i h
theorem df {p : Prop} {i : Decidable p} (h : @decide p i = false) : ¬p := @of_decide_eq_false p i h
theorem ndt {p : Prop} {i : Decidable p} (h : (!@decide p i) = true) : ¬p := df (i := i) (by simpa using h)
theorem ndf {p : Prop} {i : Decidable p} (h : (!@decide p i) = false) : p := dt (i := i) (by simpa using h)
noncomputable abbrev iV (l : List Int) : List V := l.map V.int
theorem iV_dats (l : List Int) : iV l = dats (l.map PyData.int) := by simp [dats, iV, List.map_map]

section
variable {C : Cx} {n : Nat} {env : Env} {m : Vars} {σ : AH} {P : V → AH → Prop} {sc : Scope}

theorem Fn.up {k : Nat} {fa : Addr} {vs : List V} (h : Fn C k fa vs σ P) (hk : k ≤ n) : Fn C n fa vs σ P := fun A s xs R S V RR hR => h A s xs (R.mono hk) S V RR hR

theorem hp1 {pos : Pos} {args : List Expr} (h : noStar args = true) : (backTo pos (starEach args env)) = [] ∨ (∃ t r, backTo pos (starEach args env) = (false, t) :: r) := by
  cases args with
  | nil => exact .inl rfl
  | cons e r =>
    have h' : isStar e = false ∧ noStar r = true := by simpa [noStar] using h
    exact .inr ⟨_, _, by rw [star_cons h'.1]; rfl⟩
theorem hp2 {pos : Pos} {args : List Expr} (h : noStar args = true) : args = [] ∨ (∃ e rest, args = e :: rest ∧ starEach (e :: rest) env = (false, eval e env) :: starEach rest env ∧ (backTo pos (starEach rest env)).any (·.1) = false) := by
  cases args with
  | nil => exact .inl rfl
  | cons e r =>
    have h' : isStar e = false ∧ noStar r = true := by simpa [noStar] using h
    exact .inr ⟨e, r, rfl, star_cons h'.1, star_any h'.2⟩
theorem E_gv (T : Tx C) {x : Str} {pos : Pos} {v : V} (hs : env.scope = sc) (h1 : gV.lookup x = some v) (hk : sc.names.lookup x = some .globalImplicit) (h : P v σ) : Ev C n env m (.Name x pos) σ P :=
  E_glob T.ok (T.v.get h1) (kind_of hs hk) h
theorem E_fn (T : Tx C) {x : Str} {np pos : Pos} {args : List Expr} {fa : Addr} (hs : env.scope = sc) (h1 : gF.lookup x = some fa) (hk : sc.names.lookup x = some .globalImplicit)
    (h : Evs C n env m pos args σ (fun vs σ1 => Fn C n fa vs σ1 P)) (hp : noStar args = true := by rfl) : Ev C n env m (.Call (.Name x np) args [] pos) σ P :=
  E_call T.ok (T.f.get h1) (kind_of hs hk) h (hp1 hp)
theorem E_bl (T : Tx C) {x : Str} {np pos : Pos} {args : List Expr} {f : Value} (hs : env.scope = sc) (h1 : gB.lookup x = some f) (hk : sc.names.lookup x = some .globalImplicit)
    (h : Evs C n env m pos args σ (fun vs σ1 => CallV C n f vs σ1 P))
    (hp : noStar args = true := by rfl) :
    Ev C n env m (.Call (.Name x np) args [] pos) σ P := E_blt T.ok (T.b.get h1) (kind_of hs hk) h (hp2 hp)
theorem E_as (T : Tx C) {value slice : Expr} {attr : Str} {p pos : Pos}
    (h : Ev C n env m (.Subscript value slice p) σ (fun v σ1 => ∃ x cc d fs u l, v = .obj x ∧ Inst σ1 x cc d fs ∧ fs.lookup attr = some u ∧ gA.lookup cc = some l ∧ l.lookup attr = some () ∧ P u σ1)) : Ev C n env m (.Attribute (.Subscript value slice p) attr pos) σ P :=
  E_attr T.ok (h.mono fun v σ1 ⟨x, cc, d, fs, u, l, e1, e2, e3, e4, e5, p⟩ => ⟨x, cc, d, fs, u, e1, e2, e3, T.p.get e4, (T.a.get e4).get e5, p⟩) (by with_unfolding_all rfl)
theorem E_va (T : Tx C) {x attr : Str} {p pos : Pos} {a cc d : Addr} {fs : Vars} {u : V} {l : List (Str × Unit)} (hx : m.lookup x = some (.obj a)) (i : Inst σ a cc d fs) (hu : fs.lookup attr = some u) (hc : gA.lookup cc = some l) (ha : l.lookup attr = some ()) (h : P u σ) : Ev C n env m (.Attribute (.Name x p) attr pos) σ P :=
  E_attr T.ok (E_var hx ⟨a, cc, d, fs, u, rfl, i, hu, T.p.get hc, (T.a.get hc).get ha, h⟩) (by with_unfolding_all rfl)
theorem E_vm (T : Tx C) {x name : Str} {p apos pos : Pos} {args : List Expr} {a cc d f : Addr} {fs : Vars} {l : List (Str × Addr)} {l' : List (Str × Unit)} (hx : m.lookup x = some (.obj a)) (i : Inst σ a cc d fs) (hn : fs.lookup name = none) (hc : gM.lookup cc = some l) (hc' : gA.lookup cc = some l') (hm : l.lookup name = some f)
    (h : Evs C n env m pos args σ (fun vs σ2 => Fn C n f (.obj a :: vs) σ2 P)) (hp : noStar args = true := by rfl) (hl : decide (args.length < 20) = true := by rfl) (hline : (apos.endLine == pos.line) = true := by rfl) :
    Ev C n env m (.Call (.Attribute (.Name x p) name apos) args [] pos) σ P :=
  E_meth T.ok (E_var hx ⟨a, cc, d, fs, f, rfl, i, hn, T.p.get hc', (T.m.get hc).get hm, h⟩) (meth_eval hp hl hline) (hp2 hp)
theorem E_nw (T : Tx C) {x : Str} {np pos : Pos} {args : List Expr} {p : Addr × Addr} (hs : env.scope = sc) (h1 : gC.lookup x = some p) (hk : sc.names.lookup x = some .globalImplicit)
    (h : Evs C (n + 1) env m pos args σ (fun vs σ1 => ∀ a d, a ≠ d → σ1 a = none → σ1 d = none → Fn C n p.2 (.obj a :: vs) (upd (upd σ1 d (.attrs [])) a (.inst p.1 d)) (fun v σ2 => v = .none ∧ P (.obj a) σ2)))
    (hp : noStar args = true := by rfl) :
    Ev C (n + 1) env m (.Call (.Name x np) args [] pos) σ P := E_new T.ok (T.c.get h1) (kind_of hs hk) h (hp2 hp)
theorem X_sa (T : Tx C) {x : Str} {value : Expr} {attr : Str} {p p' pos : Pos} {rest : List Stmt} {P : Out → Vars → AH → Prop} {a cc d : Addr} {l : List (Str × Unit)} (hx : m.lookup x = some (.obj a)) (hc : gA.lookup cc = some l) (ha : l.lookup attr = some ())
    (h : Ev C n env m value σ (fun v σ1 => ∃ fs, Inst σ1 a cc d fs ∧ fs.length ≤ 900 ∧ Ex C n env m rest (upd σ1 d (.attrs ((attr, v) :: fs))) P))
    (hs : isComp value = false := by rfl) : Ex C n env m (.Assign [.Attribute (.Name x p) attr p'] value pos :: rest) σ P :=
  X_setattr T.ok (h.mono fun v σ1 ⟨fs, i, hl, k⟩ => E_var hx ⟨a, cc, d, fs, rfl, i, hl, T.p.get hc, (T.a.get hc).get ha, k⟩) hs

/-- a function of the text by its place -/
theorem fnT (T : Tx C) {fa : Addr} {st : Stmt} {vs : List V} (h1 : gN.lookup fa = some st) (hl : vs.length = (sParams st).length) (hnd : (sParams st).Nodup)
    (hloc : ∀ p ∈ sParams st, ((sScope st).names.lookup p = some .local ∨ (sScope st).names.lookup p = some .cell) ∧ (p == ("__debug__" : Str)) = false)
    (hco : (sScope st).isCoroutine = false) (hgen : (sScope st).isGenerator = false) (hk : (sScope st).kind = .function)
    (h : ∀ env, env.scope = sScope st → (∀ x, (sScope st).names.lookup x = some .cell → (env.cells.lookup x).isSome = true) → Ex C n env ((sParams st).zip vs).reverse (sBody st) σ (FnPost P)) : Fn C (n + 1) fa vs σ P :=
  fn_of T.ok (T.n.get h1) hl hnd hloc hco hgen hk h
end
section
variable {C : Cx} {n : Nat} {env : Env} {m : Vars} {σ : AH} {P : Out → Vars → AH → Prop} {rest : List Stmt}

theorem drop_cons {α : Type} {l : List α} {i : Nat} {v : α} {r : List α} (h : v :: r = l.drop i) : l[i]? = some v ∧ r = l.drop (i + 1) := by
  constructor
  · rw [← List.head?_drop, ← h]; rfl
  · rw [← List.tail_drop, ← h]; rfl
theorem drop_nil {α : Type} {l : List α} {i : Nat} (h : [] = l.drop i) (hi : i ≤ l.length) : i = l.length := by
  have : l.length ≤ i := by rw [← List.drop_eq_nil_iff]; exact h.symm
  omega

/-- a for loop, told by the index -/
theorem X_forI {x : Str} {px pos : Pos} {iter : Expr} {body : List Stmt} (I : Nat → AH → Prop) (mv : Vars) (hk : Sto env x)
    (h : Ev C n env m iter σ (fun v σ1 => ∃ items cond, Src C v σ1 items cond ∧ cond σ1 ∧ Sub mv m ∧ I 0 σ1 ∧
      (∀ i v σ', items[i]? = some v → I i σ' → cond σ' → Ex C n env ((x, v) :: mv) body σ' (fun o m2 σ2 => match o with
        | .next | .cont => cond σ2 ∧ Sub mv m2 ∧ I (i + 1) σ2
        | .brk => Ex C n env m2 rest σ2 P
        | .ret v => P (.ret v) m2 σ2)) ∧
      (∀ σ', I items.length σ' → cond σ' → Ex C n env mv rest σ' P)))
    (hs : isSet iter = false := by rfl) : Ex C n env m (.For (.Name x px) iter body [] pos :: rest) σ P := by
  refine X_forE (ι := Nat) hk (h.mono ?_) hs
  rintro v σ1 ⟨items, cond, src, hc, hsub, h0, turn, done⟩
  refine ⟨fun i r σ' => r = items.drop i ∧ i ≤ items.length ∧ I i σ', fun _ => mv, items, cond, 0, src, hc, hsub, ⟨rfl, Nat.zero_le _, h0⟩, ?_, ?_⟩
  · rintro i v r σ' ⟨hr, hi, hI⟩ hc'
    obtain ⟨hv, hr'⟩ := drop_cons hr
    have hlt : i < items.length := (List.getElem?_eq_some_iff.mp hv).1
    refine (turn i v σ' hv hI hc').mono fun o m2 σ2 p => ?_
    cases o with
    | next => obtain ⟨h1, h2, h3⟩ := p; exact ⟨h1, i + 1, h2, hr', hlt, h3⟩
    | cont => obtain ⟨h1, h2, h3⟩ := p; exact ⟨h1, i + 1, h2, hr', hlt, h3⟩
    | brk => exact p
    | ret v => exact p
  · rintro i σ' ⟨hr, hi, hI⟩ hc'
    have := drop_nil hr hi
    subst this
    exact done σ' hI hc'

/-- if, with what both branches come to; its posts stand as one name -/
theorem X_ifJ {ι : Type} (J : ι → AH → Prop) (mj : ι → Vars) {test : Expr} {body orelse : List Stmt} {pos : Pos}
    (h : ∀ P' : Out → Vars → AH → Prop, (∀ i m2 σ2, Sub (mj i) m2 → J i σ2 → P' .next m2 σ2) → (∀ o m2 σ2, o ≠ .next → P o m2 σ2 → P' o m2 σ2) →
      Tst C n env m test σ (fun b σ1 => (b = true → Ex C n env m body σ1 P') ∧ (b = false → Ex C n env m orelse σ1 P')))
    (k : ∀ i σ2, J i σ2 → Ex C n env (mj i) rest σ2 P) : Ex C n env m (.If test body orelse pos :: rest) σ P := by
  refine X_if (h (Then C n env rest P) (fun i m2 σ2 hs hJ => Ex1.sub hs (k i σ2 hJ)) fun o m2 σ2 ho p => ?_)
  cases o with
  | next => exact absurd rfl ho
  | brk => exact p
  | cont => exact p
  | ret v => exact p

theorem rng_get {N i : Nat} {v : V} (h : (rngItems 0 (N : Int))[i]? = some v) : i < N ∧ v = .int (i : Int) := by
  unfold rngItems at h
  rw [List.getElem?_map] at h
  have hN : ((N : Int) - 0).toNat = N := by omega
  rw [hN] at h
  rcases Nat.lt_or_ge i N with q | q
  · rw [List.getElem?_range q] at h
    simp at h
    exact ⟨q, h.symm⟩
  · rw [List.getElem?_eq_none (by simpa using q)] at h; cases h
theorem rng_len {N : Nat} : (rngItems 0 (N : Int)).length = N := by
  unfold rngItems; rw [List.length_map, List.length_range]; omega

/-- for x in range(..) -/
theorem X_forN {x : Str} {px pos : Pos} {iter : Expr} {body : List Stmt} (I : Nat → AH → Prop) (mv : Vars) (hk : Sto env x)
    (h : Ev C n env m iter σ (fun v σ1 => ∃ (r : Addr) (N : Nat), v = .obj r ∧ σ1 r = some (.rng 0 (N : Int)) ∧ N ≤ 100000 ∧ Sub mv m ∧ I 0 σ1 ∧
      (∀ i σ', i < N → I i σ' → Ex C n env ((x, .int (i : Int)) :: mv) body σ' (fun o m2 σ2 => match o with
        | .next | .cont => Sub mv m2 ∧ I (i + 1) σ2
        | .brk => Ex C n env m2 rest σ2 P
        | .ret v => P (.ret v) m2 σ2)) ∧
      (∀ σ', I N σ' → Ex C n env mv rest σ' P)))
    (hs : isSet iter = false := by rfl) : Ex C n env m (.For (.Name x px) iter body [] pos :: rest) σ P := by
  refine X_forI I mv hk (h.mono ?_) hs
  rintro v σ1 ⟨r, N, rfl, hr, hN, hsub, h0, turn, done⟩
  refine ⟨rngItems 0 (N : Int), fun _ => True, src_rng hr (by omega) (by omega) (by omega) (by omega), trivial, hsub, h0, ?_, ?_⟩
  · intro i v σ' hv hI _
    obtain ⟨hi, rfl⟩ := rng_get hv
    refine (turn i σ' hi hI).mono fun o m2 σ2 p => ?_
    cases o with
    | next => exact ⟨trivial, p⟩
    | cont => exact ⟨trivial, p⟩
    | brk => exact p
    | ret v => exact p
  · intro σ' hI _
    rw [rng_len] at hI
    exact done σ' hI

/-- a comprehension, told by the index -/
theorem CompSay.byI {elt iter : Expr} {x : Str} {ifs : List Expr} {scope sc sc' : Scope} {P : Addr → AH → Prop} (I : Nat → List V → AH → Prop) (mc : Vars) (hcs : CompSc scope sc sc' x (mc.map (·.1)))
    (h : Ev C n env m iter σ (fun v σ1 => ∃ (items : List V) (cond : AH → Prop), Sub mc m ∧ Src C v σ1 items cond ∧ cond σ1 ∧ I 0 [] σ1 ∧
      (∀ cenv i v acc σ', cenv.scope = sc' → items[i]? = some v → I i acc σ' → cond σ' →
        Tsts C n cenv ((x, v) :: mc) ifs σ' (fun b σ2 => (b = true → Ev C n cenv ((x, v) :: mc) elt σ2 (fun u σ3 => cond σ3 ∧ acc.length ≤ 90000 ∧ I (i + 1) (acc ++ [u]) σ3)) ∧ (b = false → cond σ2 ∧ I (i + 1) acc σ2))) ∧
      (∀ acc σ', I items.length acc σ' → cond σ' → ∀ D, σ' D = none → P D (upd σ' D (.list acc))))) : CompSay C n env m elt iter x ifs scope sc sc' σ P := by
  refine W.mono h ?_
  rintro v σ1 ⟨items, cond, hsub, src, hc, h0, turn, done⟩
  refine ⟨fun r acc σ' => ∃ i, r = items.drop i ∧ i ≤ items.length ∧ I i acc σ', mc, items, cond, hcs, hsub, src, hc, ⟨0, rfl, Nat.zero_le _, h0⟩, ?_, ?_⟩
  · rintro cenv v r acc σ' hsc ⟨i, hr, hi, hI⟩ hc'
    obtain ⟨hv, hr'⟩ := drop_cons hr
    have hlt : i < items.length := (List.getElem?_eq_some_iff.mp hv).1
    refine W.mono (turn cenv i v acc σ' hsc hv hI hc') ?_
    rintro b σ2 ⟨ht, hf⟩
    refine ⟨fun e => W.mono (ht e) ?_, fun e => ?_⟩
    · rintro u σ3 ⟨h1, h2, h3⟩; exact ⟨h1, h2, i + 1, hr', hlt, h3⟩
    · obtain ⟨h1, h2⟩ := hf e; exact ⟨h1, i + 1, hr', hlt, h2⟩
  · rintro acc σ' ⟨i, hr, hi, hI⟩ hc' D hD
    have := drop_nil hr hi
    subst this
    exact done acc σ' hI hc' D hD
end
local macro_rules | `(tactic| walk_at "v") => `(tactic| first
  | ((with_reducible refine' E_var ?hx ?_); (case hx => rfl))
  | (with_reducible refine E_int ?_)
  | ((with_reducible refine E_str ?_ ?hx); (case hx => decide +kernel))
  | (with_reducible refine E_bool ?_)
  | ((with_reducible refine' E_gv ?h1 ?h2 ?h3 ?h4 ?_); (case h1 => assumption); (case h2 => assumption); (case h3 => rfl); (case h4 => rfl)))
local macro_rules | `(tactic| walk_at "a") => `(tactic| repeat' first
  | ((with_reducible refine A_cons ?_ ?hx); (case hx => rfl))
  | (with_reducible refine A_nil ?_)
  | walk_at "v"
  | (with_reducible refine E_bin ?_)
  | ((with_reducible refine E_cmp ?_ ?hx); (case hx => rfl)))
local macro_rules | `(tactic| walk_at "sto") => `(tactic| exact ⟨Or.inl (kind_of (by assumption) (by rfl)), by rfl⟩)
local macro_rules | `(tactic| walk_at "stoc") => `(tactic| exact ⟨Or.inr ⟨kind_of (by assumption) (by rfl), (by assumption : ∀ x, _ → _) _ (by rfl)⟩, by rfl⟩)
local macro_rules | `(tactic| walk_at "sub") => `(tactic| repeat' first | exact Sub.nil _ | refine Sub.cons (by rfl) ?_)
local macro_rules | `(tactic| walk_at "fn") => `(tactic| refine fnT (by assumption) (by rfl) (by rfl) (by decide) (by decide) (by rfl) (by rfl) (by rfl) ?_)
local macro_rules | `(tactic| walk_at "call") => `(tactic| refine E_fn (by assumption) (by assumption) (by rfl) (by rfl) ?_)
local macro_rules | `(tactic| walk_at "blt") => `(tactic| refine E_bl (by assumption) (by assumption) (by rfl) (by rfl) ?_)
section
variable {C : Cx} {σ : AH} {P : V → AH → Prop}
open Classical in
theorem fn_matching (T : Tx C) {a b : PyData} (ha : nb a = true) (hb : nb b = true) (h : P (.bool (decide (a = kVar ∨ b = kVar ∨ a = b))) σ) : Fn C 1 182 [.dat a, .dat b] σ P := by
  walk_at "fn"
  intro env hs hc
  refine X_if ?_
  refine T_or (T_cmp ?_)
  walk_at "a"
  refine op_eq ha rfl ⟨_, rfl, fun h1 => ⟨fun _ => X_ret (E_bool ?_), fun e => by cases e⟩, fun h1 => T_cmp ?_⟩
  · have : a = kVar := of_decide_eq_true h1
    subst this
    show P (.bool true) σ
    simpa using h
  · walk_at "a"
    refine op_eq hb rfl ⟨_, rfl, fun h2 => X_ret (E_bool ?_), fun h2 => X_nil (X_ret (E_cmp ?_))⟩
    · have : b = kVar := of_decide_eq_true h2
      subst this
      show P (.bool true) σ
      simpa using h
    · walk_at "a"
      refine op_eq ha hb ?_
      have n1 : a ≠ kVar := of_decide_eq_false h1
      have n2 : b ≠ kVar := of_decide_eq_false h2
      simpa [FnPost, n1, n2] using h

theorem fn_const_key (T : Tx C) {d : PyData} (hd : d.depth ≤ 5) (h : P (.dat (.tuple [.str "const", d])) σ) : Fn C 1 168 [.dat d] σ P := by
  walk_at "fn"
  intro env hs hc
  refine X_ret (E_tuple ?_)
  walk_at "a"
  exact ⟨[.str "const", d], rfl, by simp [PyData.depthAll, PyData.depth]; omega, by simp, h⟩
theorem fn_struct_key (T : Tx C) {d : PyData} (hd : d.depth ≤ 5) (h : P (.dat (.tuple [.str "struct", d])) σ) : Fn C 1 175 [.dat d] σ P := by
  walk_at "fn"
  intro env hs hc
  refine X_ret (E_tuple ?_)
  walk_at "a"
  exact ⟨[.str "struct", d], rfl, by simp [PyData.depthAll, PyData.depth]; omega, by simp, h⟩

-- _law_draw
theorem fn_draw (T : Tx C) {L : Addr} {fs : List Int} {k : Int} (e : σ L = some (.list (iV fs))) (hl : fs.length ≤ 1000) (h0 : ∀ f ∈ fs, 0 ≤ f) (hk : 0 < k)
    (h : ∀ (r : Nat) (gs : List Int), (r : Int) < k → gs.length ≤ fs.length → (∀ f ∈ gs, 0 ≤ f) → ∀ σ', OldX [L] σ σ' → σ' L = some (.list (iV gs)) → P (.int (r : Int)) σ') : Fn C 1 383 [.obj L, .int k] σ P := by
  walk_at "fn"
  intro env hs hc
  refine X_if (T_cmp ?_)
  walk_at "a"
  refine E_list T.ok ?_
  walk_at "a"
  refine ⟨by simp, fun a ha => ?_⟩
  have e' : upd σ a (.list []) L = some (.list (dats (fs.map PyData.int))) := by rw [upd_old ha e, iV_dats]
  have e2 : upd σ a (.list []) a = some (.list (dats [])) := upd_same _ _ _
  refine op_eq_list e' e2 (by intro d hd; obtain ⟨i, _, rfl⟩ := List.mem_map.mp hd; rfl) (by intro d hd; cases hd) ⟨_, rfl, fun h1 => ?_, fun h1 => ?_⟩
  · refine X_ret (E_int ?_)
    have : fs = [] := by simpa using of_decide_eq_true h1
    subst this
    exact h 0 [] (by omega) (Nat.le_refl _) (by intro f hf; cases hf) _ ((OldX.refl _ _).new ha) (upd_old ha e)
  · refine X_nil (X_ret (E_bin ?_))
    have hne : fs ≠ [] := fun q => of_decide_eq_false h1 (by rw [q]; rfl)
    obtain ⟨gs, g, rfl⟩ : ∃ gs g, fs = gs ++ [g] := ⟨fs.dropLast, fs.getLast hne, (List.dropLast_concat_getLast hne).symm⟩
    refine E_pop T.ok (E_var (by rfl) ⟨L, iV gs, .int g, rfl, ?_, ?_, ?_⟩)
    · rw [upd_old ha e]; simp [iV]
    · simp only [List.length_map, List.length_append] at *; omega
    · refine E_var (by rfl) (op_mod (by omega) ?_)
      have hg := h0 g (by simp)
      have hm1 := Int.emod_nonneg g (show k ≠ 0 by omega)
      have hm2 := Int.emod_lt_of_pos g hk
      have ef : g.fmod k = (((g % k).toNat : Nat) : Int) := by
        rw [Int.fmod_eq_emod_of_nonneg _ (by omega)]; omega
      rw [ef]
      exact h _ gs (by omega) (by simp) (fun f hf => h0 f (by simp [hf])) _ (((OldX.refl _ _).new ha).put (by simp)) (upd_same _ _ _)
end
/-- a clause's key -/
noncomputable def IsKey (d : PyData) : Prop := d = kVar ∨ d = kList ∨ (∃ n, d = kStruct n) ∨ ∃ t n, d = kConst t n
theorem IsKey.nb {d : PyData} (h : IsKey d) : nb d = true := by
  rcases h with rfl | rfl | ⟨n, rfl⟩ | ⟨t, n, rfl⟩ <;> rfl
/-- a key that a clause may have, its kind spelled -/
noncomputable def Mat (a b : PyData) : Prop := a = kVar ∨ b = kVar ∨ a = b

structure Code where
  a : Addr
  d : Addr
  l : Addr
  fs : Vars
  key : PyData
structure CodeAt (σ : AH) (i : Nat) (c : Code) : Prop where
  inst : Inst σ c.a 365 c.d c.fs
  fk : c.fs.lookup ("key" : Str) = some (.dat c.key)
  fi : c.fs.lookup ("instrs" : Str) = some (.obj c.l)
  ins : σ c.l = some (.list [.dat (.tuple [.str "execute", .int (i : Int)])])
  key : IsKey c.key
noncomputable abbrev cV (cs : List Code) : List V := cs.map fun c => V.obj c.a
structure CodesOk (σ : AH) (L : Addr) (cs : List Code) : Prop where
  list : σ L = some (.list (cV cs))
  each : ∀ i c, cs[i]? = some c → CodeAt σ i c
  len : cs.length ≤ 4
theorem CodeAt.old {σ σ' : AH} {i : Nat} {c : Code} (h : CodeAt σ i c) (k : Old σ σ') : CodeAt σ' i c :=
  ⟨⟨k _ _ (by simp) h.inst.obj, k _ _ (by simp) h.inst.att⟩, h.fk, h.fi, k _ _ (by simp) h.ins, h.key⟩
theorem CodesOk.old {σ σ' : AH} {L : Addr} {cs : List Code} (h : CodesOk σ L cs) (k : Old σ σ') : CodesOk σ' L cs :=
  ⟨k _ _ (by simp) h.list, fun i c e => (h.each i c e).old k, h.len⟩
noncomputable def keysOf (cs : List Code) : List PyData := cs.map (·.key)
theorem CodesOk.isKey {σ : AH} {L : Addr} {cs : List Code} (h : CodesOk σ L cs) : ∀ k ∈ keysOf cs, IsKey k := by
  intro k hk
  obtain ⟨c, hc, rfl⟩ := List.mem_map.mp hk
  obtain ⟨i, hi⟩ := List.getElem?_of_mem hc
  exact (h.each i c hi).key

noncomputable def MatAt (ks : List PyData) (k : PyData) (i : Nat) : Prop := ∃ c, ks[i]? = some c ∧ Mat c k
open Classical in
/-- the places whose keys match -/
noncomputable def cand (ks : List PyData) (k : PyData) (n : Nat) : List Int := ((List.range n).filter fun i => decide (MatAt ks k i)).map fun i : Nat => (i : Int)
open Classical in
theorem cand_succ {ks : List PyData} {k c : PyData} {i : Nat} (h : ks[i]? = some c) : cand ks k (i + 1) = cand ks k i ++ (if Mat c k then [(i : Int)] else []) := by
  unfold cand
  rw [List.range_succ, List.filter_append, List.map_append]
  congr 1
  by_cases q : Mat c k
  · rw [if_pos q, List.filter_cons, if_pos (decide_eq_true ⟨c, h, q⟩)]; rfl
  · rw [if_neg q, List.filter_cons, if_neg (by
      simp only [decide_eq_true_eq]
      rintro ⟨c', h', q'⟩
      rw [h] at h'; cases h'; exact q q')]; rfl
theorem cand_len {ks : List PyData} {k : PyData} {i : Nat} : (cand ks k i).length ≤ i := by
  unfold cand
  rw [List.length_map]
  exact Nat.le_trans (List.length_filter_le _ _) (by simp)

section
variable {C : Cx} {n : Nat} {env : Env} {m : Vars} {σ : AH} {P : V → AH → Prop}

/-- codes[place].key -/
theorem E_ckey (T : Tx C) {x y : Str} {px py p pos : Pos} {L : Addr} {cs : List Code} {i : Nat} {c : Code} (hx : m.lookup x = some (.obj L)) (hy : m.lookup y = some (.int (i : Int))) (hc : CodesOk σ L cs) (hi : cs[i]? = some c) (h : P (.dat c.key) σ) :
    Ev C n env m (.Attribute (.Subscript (.Name x px) (.Name y py) p) "key" pos) σ P := by
  have hci := hc.each i c hi
  have hlt := (List.getElem?_eq_some_iff.mp hi).1
  refine E_as T (E_sub (E_var hx (E_var hy (op_item_list (v := .obj c.a) hc.list (by have := hc.len; omega) (by rw [List.getElem?_map, hi]; rfl) ?_))))
  exact ⟨c.a, 365, c.d, c.fs, .dat c.key, _, rfl, hci.inst, hci.fk, rfl, rfl, h⟩

theorem fn_candidates (T : Tx C) {L : Addr} {cs : List Code} {k : PyData} (hc : CodesOk σ L cs) (hk : nb k = true)
    (h : ∀ a σ', Old σ σ' → σ a = none → σ' a = some (.list (iV (cand (keysOf cs) k cs.length))) → P (.obj a) σ') : Fn C 2 189 [.obj L, .dat k] σ P := by
  walk_at "fn"
  intro env hs hcl
  refine X_assign (by walk_at "sto") (E_list T.ok (A_nil ⟨by simp, fun a ha => ?_⟩))
  refine X_forN (fun i σ' => OldX [a] σ σ' ∧ σ' a = some (.list (iV (cand (keysOf cs) k i)))) [("places", .obj a), ("codes", .obj L), ("cell_key", .dat k)] (by walk_at "sto") ?_
  walk_at "blt"
  refine A_cons ?_
  walk_at "blt"
  refine A_cons (E_var (by rfl) (A_nil ?_))
  have o1 : OldX [a] σ (upd σ a (.list [])) := (OldX.refl _ _).new ha
  have hc1 := hc.old ((OldX.refl [] _).new ha (x := .list []))
  refine cv_len hc1.list (by rw [List.length_map]; have := hc.len; omega) (A_nil (cv_range1 T.ok fun r hr => ?_))
  refine ⟨r, cs.length, rfl, by rw [upd_same, List.length_map], by have := hc.len; omega, by walk_at "sub", ⟨o1.new hr, by rw [upd_old hr (upd_same _ _ _)]; rfl⟩, ?_, ?_⟩
  · rintro i σ' hi ⟨o, ea⟩
    have hc' := hc.old (o.old (by intro b hb; rw [List.mem_singleton.mp hb]; exact ha))
    have hget := List.getElem?_eq_getElem hi
    have hkey : (keysOf cs)[i]? = some cs[i].key := by rw [keysOf, List.getElem?_map, hget]; rfl
    refine X_if (T_of ?_)
    walk_at "call"
    refine A_cons (E_ckey T (by rfl) (by rfl) hc' hget (A_cons (E_var (by rfl) (A_nil ((fn_matching T (hc'.each i _ hget).key.nb hk ?_).up (by decide))))))
    refine truthy_bool ⟨fun h1 => ?_, fun h1 => ?_⟩
    · have hm : Mat cs[i].key k := by simpa [Mat] using h1
      refine X_expr (E_append T.ok (E_var (by rfl) ⟨a, rfl, ⟨_, ea⟩, E_var (by rfl) ⟨_, ea, ?_, rfl, X_nil ?_⟩⟩))
      · have := cand_len (ks := keysOf cs) (k := k) (i := i)
        have := hc.len
        simp only [iV, List.length_map]; omega
      · refine X_nil ⟨by walk_at "sub", o.put (by simp), ?_⟩
        rw [upd_same, cand_succ hkey, if_pos hm]
        simp [iV]
    · have hm : ¬ Mat cs[i].key k := by simpa [Mat] using h1
      refine X_nil (X_nil ⟨by walk_at "sub", o, ?_⟩)
      rw [ea, cand_succ hkey, if_neg hm, List.append_nil]
  · rintro σ' ⟨o, ea⟩
    exact X_ret (E_var (by rfl) (h a σ' (o.old (by intro b hb; rw [List.mem_singleton.mp hb]; exact ha)) ha ea))
end
section
variable {C : Cx} {n : Nat} {env : Env} {m : Vars} {σ : AH} {P : V → AH → Prop}

theorem fn_allvar (T : Tx C) {L : Addr} {cs : List Code} (hc : CodesOk σ L cs) (h : ∀ b, P (.bool b) σ) : Fn C 1 196 [.obj L] σ P := by
  walk_at "fn"
  intro env hs hcl
  refine X_forI (fun i σ' => σ' = σ) [] (by walk_at "sto") (E_var (by rfl) ⟨_, _, src_list hc.list, hc.list, by walk_at "sub", rfl, ?_, ?_⟩)
  · rintro i v σ' hi rfl hl
    rw [List.getElem?_map] at hi
    obtain ⟨c, hc1, rfl⟩ := Option.map_eq_some_iff.mp hi
    have hci := hc.each i c hc1
    refine X_if (T_cmp (E_va T (by rfl) hci.inst hci.fk (by rfl) (by rfl) ?_))
    walk_at "v"
    refine op_ne hci.key.nb rfl ⟨_, rfl, fun _ => X_ret (E_bool (h _)), fun _ => X_nil (X_nil ⟨hl, by walk_at "sub", rfl⟩)⟩
  · rintro σ' rfl _
    exact X_ret (E_bool (h _))

noncomputable def Figs (σ : AH) (L : Addr) : Prop := ∃ fs : List Int, σ L = some (.list (iV fs)) ∧ fs.length ≤ 1000 ∧ ∀ f ∈ fs, 0 ≤ f
theorem fn_draw' (T : Tx C) {L : Addr} {k : Int} (F : Figs σ L) (hk : 0 < k) (h : ∀ (r : Nat) σ', (r : Int) < k → OldX [L] σ σ' → Figs σ' L → P (.int (r : Int)) σ') : Fn C 1 383 [.obj L, .int k] σ P := by
  obtain ⟨fs, e, hl, h0⟩ := F
  exact fn_draw T e hl h0 hk fun r gs hr hg h0' σ' o e' => h r σ' hr o ⟨gs, e', by omega, h0'⟩

theorem IsKey.const (t n : Int) : IsKey (.tuple [.str "const", .tuple [.int t, .int n]]) := .inr (.inr (.inr ⟨t, n, rfl⟩))
theorem IsKey.struct (n : Int) : IsKey (.tuple [.str "struct", .int n]) := .inr (.inr (.inl ⟨n, rfl⟩))

theorem pick5 {σ : AH} {x : Str} {px pos ps : Pos} {a b c d e : V} {es : List Expr} (T : Tx C) {r : Nat} (hr : r < 5) (hx : m.lookup x = some (.int (r : Int)))
    (hes : ∀ Q : List V → AH → Prop, Q [a, b, c, d, e] σ → Evs C n env m ps es σ Q)
    (hI : ∀ v, v ∈ [a, b, c, d, e] → ∀ q, σ q = none → P v (upd σ q (.list [a, b, c, d, e]))) : Ev C n env m (.Subscript (.List es ps) (.Name x px) pos) σ P := by
  refine E_sub (E_list T.ok (hes _ ⟨by simp, fun q hq => E_var hx ?_⟩))
  have hlt : r < ([a, b, c, d, e] : List V).length := hr
  refine op_item_list (upd_same _ _ _) (by omega) (List.getElem?_eq_getElem hlt) (hI _ (List.getElem_mem hlt) q hq)

theorem fn_anykey (T : Tx C) {L : Addr} (F : Figs σ L) (h : ∀ k σ', IsKey k → OldX [L] σ σ' → Figs σ' L → P (.dat k) σ') : Fn C 2 390 [.obj L] σ P := by
  walk_at "fn"
  intro env hs hcl
  refine X_assign (by walk_at "sto") ?_
  walk_at "call"
  walk_at "a"
  refine (fn_draw' T F (by decide) fun kind σ1 hkind o1 F1 => ?_).up (by decide)
  refine X_assign (by walk_at "sto") ?_
  walk_at "call"
  walk_at "a"
  refine (fn_draw' T F1 (by decide) fun r σ2 hr o2 F2 => ?_).up (by decide)
  have o := o1.trans o2
  have hr5 : r < 5 := by omega
  have fin : ∀ q l, σ2 q = none → ∀ k, IsKey k → P (.dat k) (upd σ2 q (.list l)) := fun q l hq k hk => by
    refine h k _ hk (o.new hq) ?_
    obtain ⟨fs, e, hl, h0⟩ := F2
    exact ⟨fs, upd_old hq e, hl, h0⟩
  refine X_if (T_cmp ?_)
  walk_at "a"
  refine op_eq rfl rfl ⟨_, rfl, fun _ => ?_, fun _ => ?_⟩
  · refine X_ret ?_
    refine E_tuple ?_
    walk_at "a"
    exact ⟨_, rfl, by decide, by decide, h _ _ (.inl rfl) o F2⟩
  refine X_nil ?_
  refine X_if (T_cmp ?_)
  walk_at "a"
  refine op_eq rfl rfl ⟨_, rfl, fun _ => ?_, fun _ => ?_⟩
  · refine X_ret ?_
    refine E_tuple ?_
    walk_at "a"
    exact ⟨_, rfl, by decide, by decide, h _ _ (.inr (.inl rfl)) o F2⟩
  refine X_nil ?_
  refine X_if (T_cmp ?_)
  walk_at "a"
  refine op_eq rfl rfl ⟨_, rfl, fun _ => ?_, fun _ => ?_⟩
  · refine X_ret ?_
    refine E_tuple ?_
    refine A_cons ?_
    walk_at "v"
    refine A_cons ?_
    refine pick5 (a := .int 40) (b := .int 41) (c := .int 1) (d := .int 900) (e := .int 42) T hr5 (by rfl) (fun Q hQ => ?_) fun v hv q hq => ?_
    · walk_at "a"; exact hQ
    · refine A_nil ?_
      obtain ⟨i, rfl⟩ : ∃ i, v = .int i := by
        simp only [List.mem_cons, List.not_mem_nil, or_false] at hv
        rcases hv with rfl | rfl | rfl | rfl | rfl <;> exact ⟨_, rfl⟩
      exact ⟨[.str "struct", .int i], rfl, by simp [PyData.depthAll, PyData.depth], by simp, fin q _ hq _ (IsKey.struct i)⟩
  refine X_nil ?_
  refine X_if (T_cmp ?_)
  walk_at "a"
  refine op_eq rfl rfl ⟨_, rfl, fun _ => ?_, fun _ => ?_⟩
  · refine X_ret ?_
    refine E_tuple ?_
    refine A_cons ?_
    walk_at "v"
    refine A_cons ?_
    refine E_tuple ?_
    refine A_cons ?_
    walk_at "v"
    refine A_cons ?_
    refine (pick5 (a := .int 0) (b := .int 1) (c := .int 2) (d := .int 7) (e := .int 28) T hr5 (by rfl) (fun Q hQ => ?_) fun v hv q hq => ?_)
    · walk_at "a"; exact hQ
    · refine A_nil ?_
      obtain ⟨i, rfl⟩ : ∃ i, v = .int i := by
        simp only [List.mem_cons, List.not_mem_nil, or_false] at hv
        rcases hv with rfl | rfl | rfl | rfl | rfl <;> exact ⟨_, rfl⟩
      refine ⟨[.int 4, .int i], rfl, by simp [PyData.depthAll, PyData.depth], by simp, A_nil ?_⟩
      exact ⟨[.str "const", .tuple [.int 4, .int i]], rfl, by simp [PyData.depthAll, PyData.depth], by simp, fin q _ hq _ (IsKey.const _ i)⟩
  · refine X_nil ?_
    refine X_ret ?_
    refine E_tuple ?_
    refine A_cons ?_
    walk_at "v"
    refine A_cons ?_
    refine E_tuple ?_
    refine A_cons ?_
    walk_at "v"
    refine A_cons ?_
    refine (pick5 (a := .int 0) (b := .int 1) (c := .int 2) (d := .int (-1)) (e := .int ((10 : Int) ^ (30 : Int).toNat)) T hr5 (by rfl) (fun Q hQ => ?_) fun v hv q hq => ?_)
    · walk_at "a"
      refine E_neg ?_
      walk_at "v"
      refine ⟨_, rfl, ?_⟩
      walk_at "a"
      refine op_pow ?_
      exact A_nil hQ
    · refine A_nil ?_
      obtain ⟨i, rfl⟩ : ∃ i, v = .int i := by
        simp only [List.mem_cons, List.not_mem_nil, or_false] at hv
        rcases hv with rfl | rfl | rfl | rfl | rfl <;> exact ⟨_, rfl⟩
      refine ⟨[.int 5, .int i], rfl, by simp [PyData.depthAll, PyData.depth], by simp, A_nil ?_⟩
      exact ⟨[.str "const", .tuple [.int 5, .int i]], rfl, by simp [PyData.depthAll, PyData.depth], by simp, fin q _ hq _ (IsKey.const _ i)⟩
end
section
variable {C : Cx} {n : Nat} {env : Env} {m : Vars} {σ : AH} {P : V → AH → Prop}

/-- x[j] of a tuple of data -/
theorem E_ti {x : Str} {px p pos : Pos} {kk : Nat} {j : Int} {ds : List PyData} {d : PyData} (k : Nat) (hx : m.lookup x = some (.tup ds)) (hd : ds[k]? = some d) (hk : k < 1000000) (hj : j = (k : Int)) (h : P (.dat d) σ) :
    Ev C n env m (.Subscript (.Name x px) (.Constant (.int j) kk p) pos) σ P := by
  subst hj
  exact E_sub (E_var hx (E_int (op_item_tup hk hd h)))
/-- x[i][j] -/
theorem E_tii {x : Str} {px p p2 p3 pos : Pos} {k1 k2 : Nat} {i j : Int} {ds es : List PyData} {d : PyData} (a b : Nat) (hx : m.lookup x = some (.tup ds)) (hd : ds[a]? = some (.tuple es)) (ha : a < 1000000) (hi : i = (a : Int)) (he : es[b]? = some d) (hb : b < 1000000) (hj : j = (b : Int)) (h : P (.dat d) σ) :
    Ev C n env m (.Subscript (.Subscript (.Name x px) (.Constant (.int i) k1 p) p2) (.Constant (.int j) k2 p3) pos) σ P := by
  subst hj
  exact E_sub (E_ti a hx hd ha hi (E_int (op_item_tup hb he h)))

structure SampleOk (ks U : List PyData) (g f : Int) : Prop where
  all : ∀ k ∈ ks, k = kVar ∨ k = kList ∨ k ∈ U
  only : ∀ k ∈ U, k ∈ ks ∧ k ≠ kVar ∧ k ≠ kList
  nodup : U.Nodup
  len : U.length ≤ ks.length
  gm : ∀ n, kConst 5 n ∈ ks → n ≤ g
  fm : ∀ n, kStruct n ∈ ks → n ≤ f
  g0 : 0 ≤ g ∧ (g = 0 ∨ kConst 5 g ∈ ks)
  f0 : 0 ≤ f ∧ (f = 0 ∨ kStruct f ∈ ks)

theorem SampleOk.snoc {ks U : List PyData} {g f : Int} {k : PyData} (h : SampleOk ks U g f) {U' : List PyData} {g' f' : Int} (hU : (U' = U ∧ (k = kVar ∨ k = kList ∨ k ∈ U)) ∨ (U' = U ++ [k] ∧ k ≠ kVar ∧ k ≠ kList ∧ k ∉ U))
    (hg : g ≤ g') (hf : f ≤ f') (hg' : ∀ n, k = kConst 5 n → n ≤ g') (hf' : ∀ n, k = kStruct n → n ≤ f') (hg2 : g' = g ∨ k = kConst 5 g') (hf2 : f' = f ∨ k = kStruct f') : SampleOk (ks ++ [k]) U' g' f' := by
  have hl : (ks ++ [k]).length = ks.length + 1 := by simp
  constructor
  · intro x hx
    rcases List.mem_append.mp hx with hx | hx
    · rcases h.all x hx with q | q | q
      · exact .inl q
      · exact .inr (.inl q)
      · refine .inr (.inr ?_)
        rcases hU with ⟨rfl, _⟩ | ⟨rfl, _⟩
        · exact q
        · exact List.mem_append.mpr (.inl q)
    · obtain rfl := List.mem_singleton.mp hx
      rcases hU with ⟨rfl, q⟩ | ⟨rfl, _⟩
      · exact q
      · exact .inr (.inr (by simp))
  · intro x hx
    rcases hU with ⟨rfl, _⟩ | ⟨rfl, h1, h2, _⟩
    · obtain ⟨a, b, c⟩ := h.only x hx; exact ⟨List.mem_append.mpr (.inl a), b, c⟩
    · rcases List.mem_append.mp hx with hx | hx
      · obtain ⟨a, b, c⟩ := h.only x hx; exact ⟨List.mem_append.mpr (.inl a), b, c⟩
      · obtain rfl := List.mem_singleton.mp hx; exact ⟨by simp, h1, h2⟩
  · rcases hU with ⟨rfl, _⟩ | ⟨rfl, h1, h2, h3⟩
    · exact h.nodup
    · refine List.nodup_append.mpr ⟨h.nodup, by simp, ?_⟩
      intro a ha b hb e
      obtain rfl := List.mem_singleton.mp hb
      exact h3 (e ▸ ha)
  · rcases hU with ⟨rfl, _⟩ | ⟨rfl, _⟩
    · rw [hl]; have := h.len; omega
    · rw [hl, List.length_append]; have := h.len; simp only [List.length_singleton]; omega
  · intro n hn
    rcases List.mem_append.mp hn with hn | hn
    · exact Int.le_trans (h.gm n hn) hg
    · exact hg' n (List.mem_singleton.mp hn).symm
  · intro n hn
    rcases List.mem_append.mp hn with hn | hn
    · exact Int.le_trans (h.fm n hn) hf
    · exact hf' n (List.mem_singleton.mp hn).symm
  · refine ⟨Int.le_trans h.g0.1 hg, ?_⟩
    rcases hg2 with rfl | rfl
    · exact h.g0.2.imp id fun q => List.mem_append.mpr (.inl q)
    · exact .inr (by simp)
  · refine ⟨Int.le_trans h.f0.1 hf, ?_⟩
    rcases hf2 with rfl | rfl
    · exact h.f0.2.imp id fun q => List.mem_append.mpr (.inl q)
    · exact .inr (by simp)

theorem SampleOk.same {ks U U' : List PyData} {g f g' f' : Int} (h : SampleOk ks U g f) (h' : SampleOk ks U' g' f') : g = g' ∧ f = f' ∧ ∀ d, d ∈ U ↔ d ∈ U' := by
  have one : ∀ {U U' : List PyData} {g f g' f' : Int}, SampleOk ks U g f → SampleOk ks U' g' f' → g ≤ g' ∧ f ≤ f' ∧ ∀ d, d ∈ U → d ∈ U' := by
    intro U U' g f g' f' h h'
    refine ⟨?_, ?_, fun d hd => ?_⟩
    · rcases h.g0.2 with q | q
      · rw [q]; exact h'.g0.1
      · exact h'.gm _ q
    · rcases h.f0.2 with q | q
      · rw [q]; exact h'.f0.1
      · exact h'.fm _ q
    · obtain ⟨h1, h2, h3⟩ := h.only d hd
      rcases h'.all d h1 with q | q | q
      · exact absurd q h2
      · exact absurd q h3
      · exact q
  obtain ⟨a1, a2, a3⟩ := one h h'
  obtain ⟨b1, b2, b3⟩ := one h' h
  exact ⟨Int.le_antisymm a1 b1, Int.le_antisymm a2 b2, fun d => ⟨a3 d, b3 d⟩⟩

theorem sne {x y : Str} (h : (x == y) = false) : PyData.str x ≠ PyData.str y := by
  intro q; injection q with q; subst q; simp at h

theorem take_succ {α : Type} {l : List α} {i : Nat} {x : α} (h : l[i]? = some x) : l.take (i + 1) = l.take i ++ [x] := by
  rw [List.take_succ, h]; rfl

theorem isKey_nb2 {U : List PyData} (h : ∀ k ∈ U, IsKey k) : ∀ d ∈ [kVar, kList] ++ U, nb d = true := by
  intro d hd
  rcases List.mem_append.mp hd with q | q
  · simp only [List.mem_cons, List.not_mem_nil, or_false] at q
    rcases q with rfl | rfl <;> rfl
  · exact (h d q).nb

/-- the keys that the loop has met -/
structure SmpSt (a : Addr) (ks : List PyData) (g f : Int) (σ0 σ : AH) : Prop where
  old : OldX [a] σ0 σ
  at_ : ∃ U, SampleOk ks U g f ∧ (∀ k ∈ U, IsKey k) ∧ σ a = some (.list (dats ([kVar, kList] ++ U)))

theorem fn_samples (T : Tx C) {L : Addr} {cs : List Code} (hc : CodesOk σ L cs)
    (h : ∀ a U g f σ', Old σ σ' → σ a = none → SampleOk (keysOf cs) U g f → (∀ k ∈ U, IsKey k) → σ' a = some (.list (dats ([kVar, kList] ++ U ++ [kConst 5 (g + 1), kStruct (f + 1)]))) → P (.obj a) σ') : Fn C 2 343 [.obj L] σ P := by
  walk_at "fn"
  intro env hs hcl
  refine X_assign (by walk_at "sto") ?_
  refine E_list T.ok ?_
  walk_at "a"
  refine ⟨by simp, fun a ha => ?_⟩
  refine X_assign (by walk_at "sto") ?_
  walk_at "v"
  refine X_assign (by walk_at "sto") ?_
  walk_at "v"
  have hc1 := hc.old ((OldX.refl [] _).new ha (x := .list (dats [kVar, kList])))
  refine X_forE (ι := Int × Int) (by walk_at "sto") ?_
  walk_at "v"
  refine ⟨fun i r σ' => ∃ j, r = (cV cs).drop j ∧ j ≤ cs.length ∧ SmpSt a ((keysOf cs).take j) i.1 i.2 σ σ', fun i => [("functor", .int i.2), ("greatest", .int i.1), ("keys", .obj a), ("codes", .obj L)], cV cs, _, (0, 0), src_list hc1.list, hc1.list, by walk_at "sub", ⟨0, rfl, Nat.zero_le _, (OldX.refl _ _).new ha, [], ⟨by simp, by simp, by simp, by simp, by simp, by simp, by simp, by simp⟩, by simp, upd_same _ _ _⟩, ?_, ?_⟩
  · rintro ⟨g, f⟩ v r σ' ⟨j, hr, hj, S⟩ hl
    refine Ex.gen fun PL ln => ?_
    obtain ⟨hv, hr'⟩ := drop_cons hr
    rw [List.getElem?_map] at hv
    obtain ⟨c, hcj, rfl⟩ := Option.map_eq_some_iff.mp hv
    have hlt := (List.getElem?_eq_some_iff.mp hcj).1
    have hkey : (keysOf cs)[j]? = some c.key := by rw [keysOf, List.getElem?_map, hcj]; rfl
    obtain ⟨o, U, sok, hU, ea⟩ := S
    have hc' := hc.old (o.old (by intro b hb; rw [List.mem_singleton.mp hb]; exact ha))
    have hci := hc'.each j c hcj
    have hkk := hci.key
    refine X_assign (by walk_at "sto") ?_
    refine E_va T (by rfl) hci.inst hci.fk (by rfl) (by rfl) ?_
    refine X_ifJ (ι := List PyData) (fun U' σ2 => ((U' = U ∧ (c.key = kVar ∨ c.key = kList ∨ c.key ∈ U)) ∨ (U' = U ++ [c.key] ∧ c.key ≠ kVar ∧ c.key ≠ kList ∧ c.key ∉ U)) ∧ OldX [a] σ σ2 ∧ σ2 a = some (.list (dats ([kVar, kList] ++ U'))) ∧ σ2 L = some (.list (cV cs)))
      (fun _ => [("key", .dat c.key), ("functor", .int f), ("greatest", .int g), ("keys", .obj a), ("codes", .obj L)]) ?_ ?_
    · refine fun PJ jn jo => ?_
      refine T_cmp ?_
      walk_at "a"
      refine op_notin_list (.inl ea) (isKey_nb2 hU) hkk.nb ⟨_, rfl, fun h1 => ?_, fun h1 => ?_⟩
      · refine X_expr ?_
        refine E_append T.ok ?_
        walk_at "v"
        refine ⟨a, rfl, ⟨_, ea⟩, ?_⟩
        walk_at "v"
        have n1 : c.key ∉ [kVar, kList] ++ U := ndt h1
        have hs0 := sok.len
        have hcl := hc.len
        refine ⟨_, ea, ?_, rfl, X_nil (jn (U ++ [c.key]) _ _ (by walk_at "sub") ⟨.inr ⟨rfl, ?_, ?_, ?_⟩, o.put (by simp), ?_, ?_⟩)⟩
        · simp only [List.length_map, List.length_append, List.length_cons, List.length_nil]
          have : ((keysOf cs).take j).length ≤ 4 := by rw [List.length_take, keysOf, List.length_map]; omega
          omega
        · intro q; exact n1 (by simp [q])
        · intro q; exact n1 (by simp [q])
        · intro q; exact n1 (by simp [q])
        · rw [upd_same]; simp [dats]
        · have : L ≠ a := by rintro rfl; rw [ea] at hl; have := hc.list; rw [ha] at this; cases this
          rw [upd_other this]; exact hl
      · have n1 : c.key ∈ [kVar, kList] ++ U := ndf h1
        refine X_nil (jn U _ _ (by walk_at "sub") ⟨.inl ⟨rfl, by simpa using n1⟩, o, ea, hl⟩)
    · rintro U' σ2 ⟨hU', o2, e2, hl2⟩
      have fin : ∀ g' f', g ≤ g' → f ≤ f' → (∀ n, c.key = kConst 5 n → n ≤ g') → (∀ n, c.key = kStruct n → n ≤ f') → (g' = g ∨ c.key = kConst 5 g') → (f' = f ∨ c.key = kStruct f') → SmpSt a ((keysOf cs).take (j + 1)) g' f' σ σ2 := by
        intro g' f' hg hf hg' hf' hg2 hf2
        refine ⟨o2, U', ?_, ?_, e2⟩
        · rw [take_succ hkey]; exact sok.snoc hU' hg hf hg' hf' hg2 hf2
        · intro k hk
          rcases hU' with ⟨rfl, _⟩ | ⟨rfl, _⟩
          · exact hU k hk
          · rcases List.mem_append.mp hk with q | q
            · exact hU k q
            · rw [List.mem_singleton.mp q]; exact hkk
      clear hU' o2 e2
      generalize c.key = key at *
      refine X_ifJ (ι := Int) (fun g' σ3 => σ3 = σ2 ∧ g ≤ g' ∧ (g' = g ∨ key = kConst 5 g') ∧ ∀ n, key = kConst 5 n → n ≤ g') (fun g' => [("key", .dat key), ("functor", .int f), ("greatest", .int g'), ("keys", .obj a), ("codes", .obj L)]) ?_ ?_
      · refine fun PJ jn jo => ?_
        refine T_and3 ?_
        refine T_cmp ?_
        rcases hkk with rfl | rfl | ⟨x, rfl⟩ | ⟨t, x, rfl⟩
        · refine E_ti 0 (by rfl) (by rfl) (by decide) (by rfl) ?_
          walk_at "v"
          exact op_eq rfl rfl ⟨_, rfl, fun h1 => absurd (dt h1) (sne (by decide)), fun h1 => ⟨fun q => (by cases q), fun _ => X_nil (jn g _ _ (by walk_at "sub") ⟨rfl, Int.le_refl _, .inl rfl, fun n q => (by cases q)⟩)⟩⟩
        · refine E_ti 0 (by rfl) (by rfl) (by decide) (by rfl) ?_
          walk_at "v"
          exact op_eq rfl rfl ⟨_, rfl, fun h1 => absurd (dt h1) (sne (by decide)), fun h1 => ⟨fun q => (by cases q), fun _ => X_nil (jn g _ _ (by walk_at "sub") ⟨rfl, Int.le_refl _, .inl rfl, fun n q => (by cases q)⟩)⟩⟩
        · refine E_ti 0 (by rfl) (by rfl) (by decide) (by rfl) ?_
          walk_at "v"
          exact op_eq rfl rfl ⟨_, rfl, fun h1 => absurd (dt h1) (sne (by decide)), fun h1 => ⟨fun q => (by cases q), fun _ => X_nil (jn g _ _ (by walk_at "sub") ⟨rfl, Int.le_refl _, .inl rfl, fun n q => (by cases q)⟩)⟩⟩
        · refine E_ti 0 (by rfl) (by rfl) (by decide) (by rfl) ?_
          walk_at "v"
          refine op_eq rfl rfl ⟨_, rfl, fun h1 => ?_, fun h1 => ⟨fun q => (by cases q), fun _ => absurd rfl (df h1)⟩⟩
          refine T_cmp ?_
          refine E_tii 1 0 (by rfl) (by rfl) (by decide) (by rfl) (by rfl) (by decide) (by rfl) ?_
          walk_at "v"
          refine op_eq rfl rfl ⟨_, rfl, fun h2 => ?_, fun h2 => ⟨fun q => (by cases q), fun _ => X_nil (jn g _ _ (by walk_at "sub") ⟨rfl, Int.le_refl _, .inl rfl, fun n q => ?_⟩)⟩⟩
          · refine T_cmp ?_
            refine E_tii 1 1 (by rfl) (by rfl) (by decide) (by rfl) (by rfl) (by decide) (by rfl) ?_
            walk_at "v"
            refine op_gt ⟨_, rfl, fun h3 => ?_, fun h3 => ?_⟩
            · have h3' := dt h3
              refine X_assign (by walk_at "sto") ?_
              refine E_tii 1 1 (by rfl) (by rfl) (by decide) (by rfl) (by rfl) (by decide) (by rfl) ?_
              have ht5 : t = 5 := by have := dt h2; injection this
              exact X_nil (jn x _ _ (by walk_at "sub") ⟨rfl, by omega, .inr (by rw [ht5]), fun n q => by cases q; exact Int.le_refl _⟩)
            · have h3' := df h3
              exact X_nil (jn g _ _ (by walk_at "sub") ⟨rfl, Int.le_refl _, .inl rfl, fun n q => by cases q; omega⟩)
          · cases q; exact absurd rfl (df h2)
      · rintro g' σ3 ⟨rfl, hg, hg2, hg'⟩
        refine X_ifJ (ι := Int) (fun f' σ4 => σ4 = σ3 ∧ f ≤ f' ∧ (f' = f ∨ key = kStruct f') ∧ ∀ n, key = kStruct n → n ≤ f') (fun f' => [("functor", .int f'), ("greatest", .int g'), ("keys", .obj a), ("codes", .obj L)]) ?_ ?_
        · refine fun PJ jn jo => ?_
          refine T_and ?_
          refine T_cmp ?_
          rcases hkk with rfl | rfl | ⟨x, rfl⟩ | ⟨t, x, rfl⟩
          · refine E_ti 0 (by rfl) (by rfl) (by decide) (by rfl) ?_
            walk_at "v"
            exact op_eq rfl rfl ⟨_, rfl, fun h1 => absurd (dt h1) (sne (by decide)), fun h1 => ⟨fun q => (by cases q), fun _ => X_nil (jn f _ _ (by walk_at "sub") ⟨rfl, Int.le_refl _, .inl rfl, fun n q => (by cases q)⟩)⟩⟩
          · refine E_ti 0 (by rfl) (by rfl) (by decide) (by rfl) ?_
            walk_at "v"
            exact op_eq rfl rfl ⟨_, rfl, fun h1 => absurd (dt h1) (sne (by decide)), fun h1 => ⟨fun q => (by cases q), fun _ => X_nil (jn f _ _ (by walk_at "sub") ⟨rfl, Int.le_refl _, .inl rfl, fun n q => (by cases q)⟩)⟩⟩
          · refine E_ti 0 (by rfl) (by rfl) (by decide) (by rfl) ?_
            walk_at "v"
            refine op_eq rfl rfl ⟨_, rfl, fun h1 => ?_, fun h1 => ⟨fun q => (by cases q), fun _ => absurd rfl (df h1)⟩⟩
            refine T_cmp ?_
            refine E_ti 1 (by rfl) (by rfl) (by decide) (by rfl) ?_
            walk_at "v"
            refine op_gt ⟨_, rfl, fun h3 => ?_, fun h3 => ?_⟩
            · have h3' := dt h3
              refine X_assign (by walk_at "sto") ?_
              refine E_ti 1 (by rfl) (by rfl) (by decide) (by rfl) ?_
              exact X_nil (jn x _ _ (by walk_at "sub") ⟨rfl, by omega, .inr rfl, fun n q => by cases q; exact Int.le_refl _⟩)
            · have h3' := df h3
              exact X_nil (jn f _ _ (by walk_at "sub") ⟨rfl, Int.le_refl _, .inl rfl, fun n q => by cases q; omega⟩)
          · refine E_ti 0 (by rfl) (by rfl) (by decide) (by rfl) ?_
            walk_at "v"
            exact op_eq rfl rfl ⟨_, rfl, fun h1 => absurd (dt h1) (sne (by decide)), fun h1 => ⟨fun q => (by cases q), fun _ => X_nil (jn f _ _ (by walk_at "sub") ⟨rfl, Int.le_refl _, .inl rfl, fun n q => (by cases q)⟩)⟩⟩
        · rintro f' σ4 ⟨rfl, hf, hf2, hf'⟩
          exact X_nil (ln _ _ _ ⟨hl2, (g', f'), by walk_at "sub", j + 1, hr', hlt, fin g' f' hg hf hg' hf' hg2 hf2⟩)
  · rintro ⟨g, f⟩ σ' ⟨j, hr, hj, S⟩ hl
    have := drop_nil hr (by rw [List.length_map]; exact hj)
    rw [List.length_map] at this
    subst this
    rw [show (keysOf cs).take cs.length = keysOf cs from List.take_of_length_le (by rw [keysOf, List.length_map]; exact Nat.le_refl _)] at S
    obtain ⟨o, U, sok, hU, ea⟩ := S
    have hlen : U.length ≤ 4 := by have := sok.len; rw [keysOf, List.length_map] at this; have := hc.len; omega
    refine X_expr ?_
    refine E_append T.ok ?_
    walk_at "v"
    refine ⟨a, rfl, ⟨_, ea⟩, ?_⟩
    walk_at "call"
    refine A_cons ?_
    refine E_tuple ?_
    refine A_cons ?_
    walk_at "v"
    refine A_cons ?_
    refine E_bin ?_
    walk_at "a"
    refine op_add ?_
    refine A_nil ⟨[.int 5, .int (g + 1)], rfl, by simp [PyData.depthAll, PyData.depth], by simp, ?_⟩
    refine A_nil ?_
    refine (fn_const_key T (by simp [PyData.depthAll, PyData.depth]) ?_).up (by decide)
    refine ⟨_, ea, by simp; omega, rfl, ?_⟩
    refine X_expr ?_
    refine E_append T.ok ?_
    walk_at "v"
    refine ⟨a, rfl, ⟨_, upd_same _ _ _⟩, ?_⟩
    walk_at "call"
    refine A_cons ?_
    refine E_bin ?_
    walk_at "a"
    refine op_add ?_
    refine A_nil ?_
    refine (fn_struct_key T (by simp [PyData.depth]) ?_).up (by decide)
    refine ⟨_, upd_same _ _ _, by simp; omega, rfl, ?_⟩
    refine X_ret ?_
    walk_at "v"
    refine h a U g f _ (OldX.old ((o.put (by simp)).put (by simp)) (by intro b hb; rw [List.mem_singleton.mp hb]; exact ha)) ha sok hU ?_
    rw [upd_same]
    simp [dats, kConst, kStruct]
end
theorem kvPut_look {κ : Type} [DecidableEq κ] {l : List (κ × V)} {k k' : κ} {v u : V} (h : kvLook (kvPut l k v) k' = some u) : u = v ∨ kvLook l k' = some u := by
  unfold kvPut at h
  split at h
  · unfold kvLook at h ⊢
    induction l with
    | nil => simp at h
    | cons p r ih =>
      rename_i hany
      rw [List.map_cons, List.find?_cons] at h
      rw [List.find?_cons]
      by_cases e : p.1 = k
      · simp only [e, if_true] at h
        by_cases e2 : k = k'
        · simp [e2] at h; exact .inl h.symm
        · simp only [e, e2, decide_false] at h ⊢
          by_cases hany' : r.any (fun p => decide (p.1 = k)) = true
          · exact ih hany' h
          · have : r.map (fun p => if p.1 = k then (p.1, v) else p) = r := by
              have h0 : ∀ p ∈ r, p.1 ≠ k := by
                intro p hp q
                exact hany' (List.any_eq_true.mpr ⟨p, hp, decide_eq_true q⟩)
              rw [List.map_congr_left (g := id) (fun p hp => by rw [if_neg (h0 p hp)]; rfl), List.map_id]
            rw [this] at h; exact .inr h
      · simp only [e, if_false] at h
        by_cases e2 : p.1 = k'
        · simp only [e2, decide_true] at h ⊢; exact .inr h
        · simp only [e2, decide_false] at h ⊢
          refine ih ?_ h
          simpa [e] using hany
  · unfold kvLook at h ⊢
    rw [List.find?_append] at h
    cases hf : l.find? (fun p => decide (p.1 = k')) with
    | some p => rw [hf] at h; simp at h ⊢; exact .inr h
    | none =>
      rw [hf] at h
      by_cases e : k = k'
      · simp [e] at h; exact .inl h.symm
      · simp [e] at h
theorem kvPut_len {κ : Type} [DecidableEq κ] {l : List (κ × V)} {k : κ} {v : V} : (kvPut l k v).length ≤ l.length + 1 := by
  unfold kvPut; split
  · simp
  · simp
theorem kvApp_look {κ : Type} [DecidableEq κ] {l : List (κ × V)} {k k' : κ} {v u : V} (h : kvLook (l ++ [(k, v)]) k' = some u) : u = v ∨ kvLook l k' = some u := by
  unfold kvLook at h ⊢
  rw [List.find?_append] at h
  cases hf : l.find? (fun p => decide (p.1 = k')) with
  | some p => rw [hf] at h; simp at h ⊢; exact .inr h
  | none =>
    rw [hf] at h
    by_cases e : k = k'
    · simp [e] at h; exact .inl h.symm
    · simp [e] at h

structure Sym where
  a : Addr
  d : Addr
  tx : Addr
  an : Addr
  fu : Addr
  fn : Addr
noncomputable def Sym.xs (s : Sym) : List Addr := [s.tx, s.an, s.fu, s.fn]
noncomputable abbrev rowV (r : Int × Int) : V := .dat (.tuple [.int r.1, .int r.2])
structure SymOk (σ : AH) (s : Sym) (rows : List (Int × Int)) (m : Nat) : Prop where
  inst : Inst σ s.a 155 s.d [("functor_numbers", .obj s.fn), ("functors", .obj s.fu), ("atom_numbers", .obj s.an), ("texts", .obj s.tx)]
  tx : ∃ vs, σ s.tx = some (.list vs) ∧ vs.length ≤ m
  an : ∃ kvs, σ s.an = some (.dS kvs) ∧ kvs.length ≤ m ∧ ∀ k v, kvLook kvs k = some v → ∃ i, v = .int i
  fu : σ s.fu = some (.list (rows.map rowV)) ∧ rows.length ≤ m
  fn : ∃ kvs, σ s.fn = some (.dT kvs) ∧ kvs.length ≤ m ∧ ∀ k v, kvLook kvs k = some v → ∃ i : Nat, v = .int (i : Int) ∧ i < rows.length
  ne : s.tx ≠ s.fu
theorem SymOk.mono {σ : AH} {s : Sym} {rows : List (Int × Int)} {m m' : Nat} (h : SymOk σ s rows m) (k : m ≤ m') : SymOk σ s rows m' := by
  obtain ⟨i, ⟨vs, e, l⟩, ⟨kvs, e2, l2, h2⟩, ⟨e3, l3⟩, ⟨kvs', e4, l4, h4⟩, ne⟩ := h
  exact ⟨i, ⟨vs, e, by omega⟩, ⟨kvs, e2, by omega, h2⟩, ⟨e3, by omega⟩, ⟨kvs', e4, by omega, h4⟩, ne⟩
theorem ne_k {σ : AH} {a b : Addr} {x y : AObj} (h1 : σ a = some x) (h2 : σ b = some y) (h : x ≠ y) : a ≠ b := by
  rintro rfl; rw [h1] at h2; exact h (Option.some.inj h2)

section
variable {C : Cx} {n : Nat} {env : Env} {m : Vars} {σ : AH} {P : V → AH → Prop}

theorem SymOk.put_tx {s : Sym} {rows : List (Int × Int)} {k : Nat} (h : SymOk σ s rows k) {vs : List V} (hl : vs.length ≤ k) : SymOk (upd σ s.tx (.list vs)) s rows k := by
  obtain ⟨i, ⟨vs0, e, l⟩, ⟨kvs, e2, l2, h2⟩, ⟨e3, l3⟩, ⟨kvs', e4, l4, h4⟩, ne⟩ := h
  exact ⟨⟨by rw [upd_other (ne_k i.obj e (by simp))]; exact i.obj, by rw [upd_other (ne_k i.att e (by simp))]; exact i.att⟩, ⟨vs, upd_same _ _ _, hl⟩, ⟨kvs, by rw [upd_other (ne_k e2 e (by simp))]; exact e2, l2, h2⟩, ⟨by rw [upd_other (Ne.symm ne)]; exact e3, l3⟩, ⟨kvs', by rw [upd_other (ne_k e4 e (by simp))]; exact e4, l4, h4⟩, ne⟩
theorem SymOk.put_an {s : Sym} {rows : List (Int × Int)} {k : Nat} (h : SymOk σ s rows k) {kvs : List (Str × V)} (hl : kvs.length ≤ k) (hv : ∀ k v, kvLook kvs k = some v → ∃ i, v = .int i) : SymOk (upd σ s.an (.dS kvs)) s rows k := by
  obtain ⟨i, ⟨vs0, e, l⟩, ⟨kvs0, e2, l2, h2⟩, ⟨e3, l3⟩, ⟨kvs', e4, l4, h4⟩, ne⟩ := h
  exact ⟨⟨by rw [upd_other (ne_k i.obj e2 (by simp))]; exact i.obj, by rw [upd_other (ne_k i.att e2 (by simp))]; exact i.att⟩, ⟨vs0, by rw [upd_other (ne_k e e2 (by simp))]; exact e, l⟩, ⟨kvs, upd_same _ _ _, hl, hv⟩, ⟨by rw [upd_other (ne_k e3 e2 (by simp))]; exact e3, l3⟩, ⟨kvs', by rw [upd_other (ne_k e4 e2 (by simp))]; exact e4, l4, h4⟩, ne⟩
theorem SymOk.put_fu {s : Sym} {rows rows' : List (Int × Int)} {k : Nat} (h : SymOk σ s rows k) (hl : rows'.length ≤ k) (hr : rows.length ≤ rows'.length) : SymOk (upd σ s.fu (.list (rows'.map rowV))) s rows' k := by
  obtain ⟨i, ⟨vs0, e, l⟩, ⟨kvs0, e2, l2, h2⟩, ⟨e3, l3⟩, ⟨kvs', e4, l4, h4⟩, ne⟩ := h
  exact ⟨⟨by rw [upd_other (ne_k i.obj e3 (by simp))]; exact i.obj, by rw [upd_other (ne_k i.att e3 (by simp))]; exact i.att⟩, ⟨vs0, by rw [upd_other ne]; exact e, l⟩, ⟨kvs0, by rw [upd_other (ne_k e2 e3 (by simp))]; exact e2, l2, h2⟩, ⟨upd_same _ _ _, hl⟩, ⟨kvs', by rw [upd_other (ne_k e4 e3 (by simp))]; exact e4, l4, fun k v hk => let ⟨i, hi, hlt⟩ := h4 k v hk; ⟨i, hi, by omega⟩⟩, ne⟩
theorem SymOk.put_fn {s : Sym} {rows : List (Int × Int)} {k : Nat} (h : SymOk σ s rows k) {kvs : List (List Int × V)} (hl : kvs.length ≤ k) (hv : ∀ k v, kvLook kvs k = some v → ∃ i : Nat, v = .int (i : Int) ∧ i < rows.length) : SymOk (upd σ s.fn (.dT kvs)) s rows k := by
  obtain ⟨i, ⟨vs0, e, l⟩, ⟨kvs0, e2, l2, h2⟩, ⟨e3, l3⟩, ⟨kvs', e4, l4, h4⟩, ne⟩ := h
  exact ⟨⟨by rw [upd_other (ne_k i.obj e4 (by simp))]; exact i.obj, by rw [upd_other (ne_k i.att e4 (by simp))]; exact i.att⟩, ⟨vs0, by rw [upd_other (ne_k e e4 (by simp))]; exact e, l⟩, ⟨kvs0, by rw [upd_other (ne_k e2 e4 (by simp))]; exact e2, l2, h2⟩, ⟨by rw [upd_other (ne_k e3 e4 (by simp))]; exact e3, l3⟩, ⟨kvs, upd_same _ _ _, hl, hv⟩, ne⟩

theorem fn_atom (T : Tx C) {s : Sym} {rows : List (Int × Int)} {k : Nat} {x : Str} (h : SymOk σ s rows k) (hk : k ≤ 1000)
    (hP : ∀ i σ', OldX s.xs σ σ' → SymOk σ' s rows (k + 1) → P (.int i) σ') : Fn C 1 89 [.obj s.a, .str x] σ P := by
  walk_at "fn"
  intro env hs hcl
  refine X_assign (by walk_at "sto") ?_
  refine E_getS T.ok ?_
  refine E_va T (by rfl) h.inst (by rfl) (by rfl) (by rfl) ?_
  obtain ⟨kvs, ean, lan, han⟩ := h.an
  obtain ⟨vs, etx, ltx⟩ := h.tx
  refine ⟨s.an, kvs, rfl, ean, ?_⟩
  walk_at "v"
  refine E_neg ?_
  walk_at "v"
  refine ⟨_, rfl, kvs, x, ean, rfl, ?_⟩
  obtain ⟨i, hi⟩ : ∃ i, (kvLook kvs x).getD (.int (-1)) = .int i := by
    cases e : kvLook kvs x with
    | none => exact ⟨-1, rfl⟩
    | some v => obtain ⟨i, rfl⟩ := han x v e; exact ⟨i, rfl⟩
  rw [hi]
  refine X_if ?_
  refine T_cmp ?_
  walk_at "a"
  refine op_ge ⟨_, rfl, fun _ => ?_, fun _ => ?_⟩
  · refine X_ret ?_
    walk_at "v"
    exact hP i σ (OldX.refl _ _) (h.mono (by omega))
  · refine X_nil ?_
    refine X_assign (by walk_at "sto") ?_
    walk_at "blt"
    refine A_cons ?_
    refine E_va T (by rfl) h.inst (by rfl) (by rfl) (by rfl) ?_
    refine A_nil ?_
    refine cv_len etx (by omega) ?_
    refine X_expr ?_
    refine E_append T.ok ?_
    refine E_va T (by rfl) h.inst (by rfl) (by rfl) (by rfl) ?_
    refine ⟨_, rfl, ⟨_, etx⟩, ?_⟩
    walk_at "v"
    refine ⟨_, etx, by omega, rfl, ?_⟩
    have h1 := (h.mono (Nat.le_succ k)).put_tx (vs := vs ++ [.str x]) (by simp; omega)
    obtain ⟨kvs1, ean1, lan1, han1⟩ := h1.an
    have : kvs1 = kvs := by
      rw [upd_other (ne_k ean etx (by simp))] at ean1
      rw [ean] at ean1; cases ean1; rfl
    subst this
    refine X_setitem ?_
    walk_at "v"
    refine E_va T (by rfl) h1.inst (by rfl) (by rfl) (by rfl) ?_
    walk_at "v"
    refine put_dS ean1 (by omega) ?_
    refine X_ret ?_
    walk_at "v"
    refine hP _ _ (((OldX.refl _ _).put (by simp [Sym.xs])).put (by simp [Sym.xs])) (h1.put_an ?_ ?_)
    · have := kvPut_len (l := kvs1) (k := x) (v := .int (vs.length : Int)); omega
    · intro k' v hk'
      rcases kvPut_look hk' with rfl | q
      · exact ⟨_, rfl⟩
      · exact han k' v q

theorem fn_functor (T : Tx C) {s : Sym} {rows : List (Int × Int)} {k : Nat} {x y : Int} (h : SymOk σ s rows k) (hk : k ≤ 1000)
    (hP : ∀ (i : Nat) rows' σ', OldX s.xs σ σ' → SymOk σ' s rows' (k + 1) → i < rows'.length → P (.int (i : Int)) σ') : Fn C 1 103 [.obj s.a, .int x, .int y] σ P := by
  walk_at "fn"
  intro env hs hcl
  refine X_assign (by walk_at "sto") ?_
  refine E_tuple ?_
  walk_at "a"
  refine ⟨[.int x, .int y], rfl, by simp [PyData.depthAll, PyData.depth], by simp, ?_⟩
  refine X_assign (by walk_at "sto") ?_
  refine E_getT T.ok ?_
  refine E_va T (by rfl) h.inst (by rfl) (by rfl) (by rfl) ?_
  obtain ⟨kvs, efn, lfn, hfn⟩ := h.fn
  obtain ⟨efu, lfu⟩ := h.fu
  refine ⟨s.fn, kvs, rfl, efn, ?_⟩
  walk_at "v"
  refine E_neg ?_
  walk_at "v"
  refine ⟨_, rfl, kvs, [x, y], efn, rfl, ?_⟩
  refine X_if ?_
  refine T_cmp ?_
  walk_at "v"
  cases e : kvLook kvs [x, y] with
  | some v =>
    obtain ⟨i, rfl, hi⟩ := hfn _ v e
    walk_at "v"
    refine op_ge ⟨_, rfl, fun _ => ?_, fun q => ?_⟩
    · refine X_ret ?_
      refine E_var (v := .int (i : Int)) (by rfl) ?_
      exact hP i rows σ (OldX.refl _ _) (h.mono (by omega)) hi
    · exact absurd (Int.natCast_nonneg i) (df q)
  | none =>
    walk_at "v"
    refine op_ge (a := -1) ⟨_, rfl, fun q => ?_, fun _ => ?_⟩
    · exact absurd (dt q) (by decide)
    refine X_nil ?_
    refine X_assign (by walk_at "sto") ?_
    walk_at "blt"
    refine A_cons ?_
    refine E_va T (by rfl) h.inst (by rfl) (by rfl) (by rfl) ?_
    refine A_nil ?_
    refine cv_len efu (by simp; omega) ?_
    refine X_expr ?_
    refine E_append T.ok ?_
    refine E_va T (by rfl) h.inst (by rfl) (by rfl) (by rfl) ?_
    refine ⟨_, rfl, ⟨_, efu⟩, ?_⟩
    walk_at "v"
    refine ⟨_, efu, by simp; omega, rfl, ?_⟩
    have h1 := (h.mono (Nat.le_succ k)).put_fu (rows' := rows ++ [(x, y)]) (by simp; omega) (by simp)
    rw [List.map_append] at h1
    obtain ⟨kvs1, efn1, lfn1, hfn1⟩ := h1.fn
    have : kvs1 = kvs := by
      rw [upd_other (ne_k efn efu (by simp))] at efn1
      rw [efn] at efn1; cases efn1; rfl
    subst this
    refine X_setitem ?_
    walk_at "v"
    refine E_va T (by rfl) h1.inst (by rfl) (by rfl) (by rfl) ?_
    walk_at "v"
    refine put_dT (k := [x, y]) efn1 (by omega) e ?_
    refine X_ret ?_
    walk_at "v"
    rw [List.length_map]
    refine hP rows.length (rows ++ [(x, y)]) _ (((OldX.refl _ _).put (by simp [Sym.xs])).put (by simp [Sym.xs])) (h1.put_fn ?_ ?_) (by simp)
    · simp; omega
    · intro k' v hk'
      rcases kvApp_look hk' with rfl | q
      · exact ⟨rows.length, rfl, by simp⟩
      · exact hfn1 k' v q
theorem fn_func (T : Tx C) {s : Sym} {rows : List (Int × Int)} {k : Nat} {x : Str} {y : Int} (h : SymOk σ s rows k) (hk : k ≤ 900)
    (hP : ∀ (i : Nat) rows' σ', OldX s.xs σ σ' → SymOk σ' s rows' (k + 2) → i < rows'.length → P (.int (i : Int)) σ') : Fn C 2 110 [.obj s.a, .str x, .int y] σ P := by
  walk_at "fn"
  intro env hs hcl
  refine X_ret ?_
  refine E_vm T (by rfl) h.inst (by rfl) (by rfl) (by rfl) (by rfl) ?_
  refine A_cons ?_
  refine E_vm T (by rfl) h.inst (by rfl) (by rfl) (by rfl) (by rfl) ?_
  walk_at "a"
  refine (fn_atom T h (by omega) fun i σ1 o1 h1 => ?_).up (by decide)
  walk_at "a"
  refine (fn_functor T h1 (by omega) fun j rows' σ2 o2 h2 hj => ?_).up (by decide)
  exact hP j rows' σ2 (o1.trans o2) h2 hj
theorem fn_arity (T : Tx C) {s : Sym} {rows : List (Int × Int)} {k i : Nat} (h : SymOk σ s rows k) (hk : k ≤ 1000) (hi : i < rows.length) (hP : ∀ y, P (.int y) σ) : Fn C 1 124 [.obj s.a, .int (i : Int)] σ P := by
  walk_at "fn"
  intro env hs hcl
  refine X_ret ?_
  refine E_sub ?_
  refine E_sub ?_
  refine E_va T (by rfl) h.inst (by rfl) (by rfl) (by rfl) ?_
  walk_at "v"
  obtain ⟨efu, lfu⟩ := h.fu
  refine op_item_list (v := rowV rows[i]) efu (by omega) (by rw [List.getElem?_map, List.getElem?_eq_getElem hi]; rfl) ?_
  walk_at "v"
  exact op_item_tup (k := 1) (by decide) (by rfl) (hP _)
end
inductive StrVs : List V → Prop
  | nil : StrVs []
  | cons {x : Str} {vs : List V} : StrVs vs → StrVs (.str x :: vs)
theorem StrVs.get {vs : List V} (h : StrVs vs) : ∃ ss : List Str, vs = dats (ss.map PyData.str) := by
  induction h with
  | nil => exact ⟨[], rfl⟩
  | @cons x vs _ ih => obtain ⟨ss, rfl⟩ := ih; exact ⟨x :: ss, rfl⟩
inductive RowVs : List V → Prop
  | nil : RowVs []
  | cons {x : Str} {i : Int} {vs : List V} : RowVs vs → RowVs (.dat (.tuple [.str x, .int i]) :: vs)
theorem RowVs.get {vs : List V} (h : RowVs vs) : ∃ ss : List (Str × Int), vs = dats (ss.map fun r => PyData.tuple [.str r.1, .int r.2]) := by
  induction h with
  | nil => exact ⟨[], rfl⟩
  | @cons x i vs _ ih => obtain ⟨ss, rfl⟩ := ih; exact ⟨(x, i) :: ss, rfl⟩
theorem depth_strs {ss : List Str} : PyData.depthAll (ss.map PyData.str) ≤ 7 := depthAll_of (by
  intro d hd; obtain ⟨x, _, rfl⟩ := List.mem_map.mp hd; simp [PyData.depth])
theorem depth_rows {ss : List (Str × Int)} : PyData.depthAll (ss.map fun r => PyData.tuple [.str r.1, .int r.2]) ≤ 7 := depthAll_of (by
  intro d hd; obtain ⟨x, _, rfl⟩ := List.mem_map.mp hd; simp [PyData.depth, PyData.depthAll])

section
variable {C : Cx} {n : Nat} {env : Env} {m : Vars} {σ : AH} {P : V → AH → Prop}

theorem Inst.set {a cc d : Addr} {fs fs' : Vars} (i : Inst σ a cc d fs) : Inst (upd σ d (.attrs fs')) a cc d fs' := ⟨by rw [upd_other (ne_k i.obj i.att (by simp))]; exact i.obj, upd_same _ _ _⟩
theorem Inst.new {a cc d t : Addr} {x : AObj} {fs : Vars} (i : Inst σ a cc d fs) (h : σ t = none) : Inst (upd σ t x) a cc d fs := ⟨upd_old h i.obj, upd_old h i.att⟩
theorem upd2 {t d b : Addr} {x w y z : AObj} (ht : σ t = none) (e : σ b = some y) (ed : σ d = some z) (h : y ≠ z) : upd (upd σ t x) d w b = some y := by
  rw [upd_other (ne_k e ed h)]; exact upd_old ht e
theorem Inst.make {a cc d : Addr} (h : a ≠ d) : Inst (upd (upd σ d (.attrs [])) a (.inst cc d)) a cc d [] := ⟨upd_same _ _ _, by rw [upd_other h.symm]; exact upd_same _ _ _⟩

theorem fn_atoms (T : Tx C) (h : ∀ ss : List Str, ss.length ≤ 40 → P (.tup (ss.map PyData.str)) σ) : Fn C 1 61 [] σ P := by
  walk_at "fn"
  intro env hs hcl
  refine X_ret ?_
  refine E_tuple ?_
  walk_at "a"
  have : ∀ vs : List V, StrVs vs → vs.length ≤ 40 → ∃ ds, vs = dats ds ∧ PyData.depthAll ds ≤ 7 ∧ ds.length ≤ 1000 ∧ P (.tup ds) σ := by
    intro vs hv hl
    obtain ⟨ss, rfl⟩ := hv.get
    have hl' : ss.length ≤ 40 := by simpa using hl
    exact ⟨_, rfl, depth_strs, by simp; omega, h ss hl'⟩
  refine this _ ?_ (by decide)
  repeat' constructor
theorem fn_functors (T : Tx C) (h : ∀ ss : List (Str × Int), ss.length ≤ 40 → P (.tup (ss.map fun r => PyData.tuple [.str r.1, .int r.2])) σ) : Fn C 1 68 [] σ P := by
  walk_at "fn"
  intro env hs hcl
  refine X_ret ?_
  refine E_tuple ?_
  have this : ∀ vs : List V, RowVs vs → vs.length ≤ 40 → ∃ ds, vs = dats ds ∧ PyData.depthAll ds ≤ 7 ∧ ds.length ≤ 1000 ∧ P (.tup ds) σ := by
    intro vs hv hl
    obtain ⟨ss, rfl⟩ := hv.get
    have hl' : ss.length ≤ 40 := by simpa using hl
    exact ⟨_, rfl, depth_rows, by simp; omega, h ss hl'⟩
  have one : ∀ {x : Str} {i : Int} {k1 k2 k : Nat} {p1 p2 p : Pos} {Q : V → AH → Prop}, PyData.strOk x = true → Q (.dat (.tuple [.str x, .int i])) σ → Ev C 0 env ((sParams (stmtAt 5)).zip ([] : List V)).reverse (.Tuple [.Constant (.str x) k1 p1, .Constant (.int i) k2 p2] k p) σ Q := by
    intro x i k1 k2 k p1 p2 p Q ok hQ
    refine E_tuple ?_
    refine A_cons ?_
    refine E_str ?_ ok
    refine A_cons ?_
    refine E_int ?_
    exact A_nil ⟨[.str x, .int i], rfl, by simp [PyData.depthAll, PyData.depth], by simp, hQ⟩
  repeat' first
    | ((with_reducible refine A_cons ?_ ?hx); (case hx => rfl))
    | (with_reducible refine A_nil ?_)
    | ((with_reducible refine one ?hx ?_); (case hx => decide +kernel))
  refine this _ ?_ (by decide)
  repeat' constructor

theorem fn_symInit (T : Tx C) {a d : Addr} (hne : a ≠ d) (ha : σ a = none) (hd : σ d = none)
    (h : ∀ s rows σ', s.a = a → Old σ σ' → (∀ b ∈ s.a :: s.d :: s.xs, σ b = none) → SymOk σ' s rows 200 → P .none σ') : Fn C 3 82 [.obj a] (upd (upd σ d (.attrs [])) a (.inst 155 d)) P := by
  walk_at "fn"
  intro env hs hcl
  have i0 : Inst (upd (upd σ d (.attrs [])) a (.inst 155 d)) a 155 d [] := Inst.make hne
  have o0 : OldX [a, d] σ (upd (upd σ d (.attrs [])) a (.inst 155 d)) := ((OldX.refl _ _).put (by simp)).put (by simp)
  generalize upd (upd σ d (.attrs [])) a (.inst 155 d) = σ0 at *
  refine X_sa T (cc := 155) (d := d) (by rfl) (by rfl) (by rfl) ?_
  refine E_list T.ok ?_
  refine A_nil ⟨by simp, fun tx htx => ?_⟩
  refine ⟨[], i0.new htx, by simp, ?_⟩
  have i1 := (i0.new htx (x := .list [])).set (fs' := [("texts", V.obj tx)])
  have e1 : upd (upd σ0 tx (.list [])) d (.attrs [("texts", V.obj tx)]) tx = some (.list []) := by
    rw [upd_other (ne_k (upd_same σ0 tx (.list [])) (upd_old htx i0.att) (by simp))]; exact upd_same _ _ _
  have o1 := (o0.new htx (x := .list [])).put (a := d) (x := .attrs [("texts", V.obj tx)]) (by simp)
  have f1 : σ tx = none := o0.none (by
    intro q; simp only [List.mem_cons, List.not_mem_nil, or_false] at q
    rcases q with rfl | rfl
    · rw [i0.obj] at htx; cases htx
    · rw [i0.att] at htx; cases htx) htx
  generalize upd (upd σ0 tx (.list [])) d (.attrs [("texts", V.obj tx)]) = σ1 at *
  refine X_sa T (cc := 155) (d := d) (by rfl) (by rfl) (by rfl) ?_
  refine E_dS T.ok fun an han => ?_
  refine ⟨_, i1.new han, by simp, ?_⟩
  have i2 := (i1.new han (x := .dS [])).set (fs' := [("atom_numbers", V.obj an), ("texts", V.obj tx)])
  have e2 : upd (upd σ1 an (.dS [])) d (.attrs [("atom_numbers", V.obj an), ("texts", V.obj tx)]) an = some (.dS []) := by
    rw [upd_other (ne_k (upd_same σ1 an (.dS [])) (upd_old han i1.att) (by simp))]; exact upd_same _ _ _
  have e21 : upd (upd σ1 an (.dS [])) d (.attrs [("atom_numbers", V.obj an), ("texts", V.obj tx)]) tx = some (.list []) := by
    exact upd2 han e1 i1.att (by simp)
  have o2 := (o1.new han (x := .dS [])).put (a := d) (x := .attrs [("atom_numbers", V.obj an), ("texts", V.obj tx)]) (by simp)
  have f2 : σ an = none := o1.none (by
    intro q; simp only [List.mem_cons, List.not_mem_nil, or_false] at q
    rcases q with rfl | rfl
    · rw [i1.obj] at han; cases han
    · rw [i1.att] at han; cases han) han
  generalize upd (upd σ1 an (.dS [])) d (.attrs [("atom_numbers", V.obj an), ("texts", V.obj tx)]) = σ2 at *
  refine X_sa T (cc := 155) (d := d) (by rfl) (by rfl) (by rfl) ?_
  refine E_list T.ok ?_
  refine A_nil ⟨by simp, fun fu hfu => ?_⟩
  refine ⟨_, i2.new hfu, by simp, ?_⟩
  have i3 := (i2.new hfu (x := .list [])).set (fs' := [("functors", V.obj fu), ("atom_numbers", V.obj an), ("texts", V.obj tx)])
  have e3 : upd (upd σ2 fu (.list [])) d (.attrs [("functors", V.obj fu), ("atom_numbers", V.obj an), ("texts", V.obj tx)]) fu = some (.list []) := by
    rw [upd_other (ne_k (upd_same σ2 fu (.list [])) (upd_old hfu i2.att) (by simp))]; exact upd_same _ _ _
  have e31 : upd (upd σ2 fu (.list [])) d (.attrs [("functors", V.obj fu), ("atom_numbers", V.obj an), ("texts", V.obj tx)]) tx = some (.list []) := by
    exact upd2 hfu e21 i2.att (by simp)
  have e32 : upd (upd σ2 fu (.list [])) d (.attrs [("functors", V.obj fu), ("atom_numbers", V.obj an), ("texts", V.obj tx)]) an = some (.dS []) := by
    exact upd2 hfu e2 i2.att (by simp)
  have ne3 : tx ≠ fu := by rintro rfl; rw [e21] at hfu; cases hfu
  have o3 := (o2.new hfu (x := .list [])).put (a := d) (x := .attrs [("functors", V.obj fu), ("atom_numbers", V.obj an), ("texts", V.obj tx)]) (by simp)
  have f3 : σ fu = none := o2.none (by
    intro q; simp only [List.mem_cons, List.not_mem_nil, or_false] at q
    rcases q with rfl | rfl
    · rw [i2.obj] at hfu; cases hfu
    · rw [i2.att] at hfu; cases hfu) hfu
  generalize upd (upd σ2 fu (.list [])) d (.attrs [("functors", V.obj fu), ("atom_numbers", V.obj an), ("texts", V.obj tx)]) = σ3 at *
  refine X_sa T (cc := 155) (d := d) (by rfl) (by rfl) (by rfl) ?_
  refine E_dT T.ok fun fn hfn => ?_
  refine ⟨_, i3.new hfn, by simp, ?_⟩
  have i4 := (i3.new hfn (x := .dT [])).set (fs' := [("functor_numbers", V.obj fn), ("functors", V.obj fu), ("atom_numbers", V.obj an), ("texts", V.obj tx)])
  have S0 : SymOk (upd (upd σ3 fn (.dT [])) d (.attrs [("functor_numbers", V.obj fn), ("functors", V.obj fu), ("atom_numbers", V.obj an), ("texts", V.obj tx)])) ⟨a, d, tx, an, fu, fn⟩ [] 0 := by
    refine ⟨i4, ⟨[], ?_, by simp⟩, ⟨[], ?_, by simp, by intro k v e; simp [kvLook] at e⟩, ⟨?_, by simp⟩, ⟨[], ?_, by simp, by intro k v e; simp [kvLook] at e⟩, ne3⟩
    · exact upd2 hfn e31 i3.att (by simp)
    · exact upd2 hfn e32 i3.att (by simp)
    · exact upd2 hfn e3 i3.att (by simp)
    · rw [upd_other (ne_k (upd_same σ3 fn (.dT [])) (upd_old hfn i3.att) (by simp))]; exact upd_same _ _ _
  have o4 := (o3.new hfn (x := .dT [])).put (a := d) (x := .attrs [("functor_numbers", V.obj fn), ("functors", V.obj fu), ("atom_numbers", V.obj an), ("texts", V.obj tx)]) (by simp)
  have f4 : σ fn = none := o3.none (by
    intro q; simp only [List.mem_cons, List.not_mem_nil, or_false] at q
    rcases q with rfl | rfl
    · rw [i3.obj] at hfn; cases hfn
    · rw [i3.att] at hfn; cases hfn) hfn
  generalize upd (upd σ3 fn (.dT [])) d (.attrs [("functor_numbers", V.obj fn), ("functors", V.obj fu), ("atom_numbers", V.obj an), ("texts", V.obj tx)]) = σ4 at *
  have old4 : Old σ σ4 := o4.old (by intro b hb; simp only [List.mem_cons, List.not_mem_nil, or_false] at hb; rcases hb with rfl | rfl <;> assumption)
  have fr : ∀ b ∈ (⟨a, d, tx, an, fu, fn⟩ : Sym).xs, σ b = none := by
    intro b hb
    simp only [Sym.xs, List.mem_cons, List.not_mem_nil, or_false] at hb
    rcases hb with rfl | rfl | rfl | rfl <;> assumption
  -- the two loops
  refine X_forI (fun i σ' => Old σ σ' ∧ i ≤ 40 ∧ ∃ rows, SymOk σ' ⟨a, d, tx, an, fu, fn⟩ rows i) [("self", .obj a)] (by walk_at "sto") ?_
  walk_at "call"
  refine A_nil ?_
  refine (fn_atoms T fun ss hss => ?_).up (by decide)
  refine ⟨_, _, src_tup, trivial, by walk_at "sub", ⟨old4, by omega, [], S0⟩, ?_, ?_⟩
  · rintro i v σ' hi ⟨o, hi40, rows, S⟩ _
    refine Ex.gen fun PL ln => ?_
    have hlt := (List.getElem?_eq_some_iff.mp hi).1
    simp only [List.length_map] at hlt
    rw [List.getElem?_map, List.getElem?_map, List.getElem?_eq_getElem hlt] at hi
    cases hi
    refine X_exprI ?_
    refine E_vm T (by rfl) S.inst (by rfl) (by rfl) (by rfl) (by rfl) ?_
    refine A_cons ?_
    walk_at "v"
    refine A_nil ?_
    refine (fn_atom T S (by omega) fun j σ'' o' S' => ?_).up (by decide)
    exact ⟨⟨j, rfl⟩, X_nil (ln _ _ _ ⟨trivial, by walk_at "sub", o.then o' fr, by omega, rows, S'⟩)⟩
  · rintro σ' ⟨o, hi40, rows, S⟩ _
    have S40 := S.mono (m' := 40) hi40
    refine X_forI (fun i σ' => Old σ σ' ∧ i ≤ 40 ∧ ∃ rows, SymOk σ' ⟨a, d, tx, an, fu, fn⟩ rows (40 + 2 * i)) [("self", .obj a)] (by walk_at "sto") ?_
    walk_at "call"
    refine A_nil ?_
    refine (fn_functors T fun ss hss => ?_).up (by decide)
    refine ⟨_, _, src_tup, trivial, by walk_at "sub", ⟨o, by omega, rows, S40⟩, ?_, ?_⟩
    · rintro i v σ' hi ⟨o, hi40, rows, S⟩ _
      refine Ex.gen fun PL ln => ?_
      have hlt := (List.getElem?_eq_some_iff.mp hi).1
      simp only [List.length_map] at hlt
      rw [List.getElem?_map, List.getElem?_map, List.getElem?_eq_getElem hlt] at hi
      cases hi
      refine X_exprI ?_
      refine E_vm T (by rfl) S.inst (by rfl) (by rfl) (by rfl) (by rfl) ?_
      refine A_cons ?_
      refine E_ti 0 (by rfl) (by rfl) (by decide) (by rfl) ?_
      refine A_cons ?_
      refine E_ti 1 (by rfl) (by rfl) (by decide) (by rfl) ?_
      refine A_nil ?_
      refine (fn_func T S (by omega) fun j rows' σ'' o' S' _ => ?_).up (by decide)
      exact ⟨⟨_, rfl⟩, X_nil (ln _ _ _ ⟨trivial, by walk_at "sub", o.then o' fr, by omega, rows', S'.mono (by omega)⟩)⟩
    · rintro σ' ⟨o, hi40, rows, S⟩ _
      refine X_nil ?_
      refine h ⟨a, d, tx, an, fu, fn⟩ rows σ' rfl o ?_ (S.mono (by omega))
      intro b hb
      rcases List.mem_cons.mp hb with rfl | hb
      · exact ha
      rcases List.mem_cons.mp hb with rfl | hb
      · exact hd
      · exact fr b hb
end
-- a key and a row, as data
inductive Ky where
  | var
  | list
  | struct (n : Int)
  | const (t n : Int)
noncomputable def Ky.d : Ky → PyData
  | .var => kVar
  | .list => kList
  | .struct n => kStruct n
  | .const t n => kConst t n
theorem IsKey.ky {d : PyData} (h : IsKey d) : ∃ y : Ky, d = y.d := by
  rcases h with rfl | rfl | ⟨n, rfl⟩ | ⟨t, n, rfl⟩
  · exact ⟨.var, rfl⟩
  · exact ⟨.list, rfl⟩
  · exact ⟨.struct n, rfl⟩
  · exact ⟨.const t n, rfl⟩
theorem Ky.isKey (y : Ky) : IsKey y.d := by
  cases y
  · exact .inl rfl
  · exact .inr (.inl rfl)
  · exact .inr (.inr (.inl ⟨_, rfl⟩))
  · exact .inr (.inr (.inr ⟨_, _, rfl⟩))
inductive Kd where
  | var | list | struct | const
noncomputable def Ky.kd : Ky → Kd
  | .var => .var
  | .list => .list
  | .struct _ => .struct
  | .const _ _ => .const

inductive Row where
  | lab (n : Int)
  | tri (l a : Int)
  | retry (l : Int)
  | trust (l : Int)
  | term (v c l s : Int)
  | con (t : List (Int × Int × Int)) (d : Int)
  | str (t : List (Int × Int)) (d : Int)
  | exec (n : Int)
  | fail
noncomputable def conE (e : Int × Int × Int) : PyData := .tuple [.tuple [.int e.1, .int e.2.1], .int e.2.2]
noncomputable def strE (e : Int × Int) : PyData := .tuple [.int e.1, .int e.2]
noncomputable def Row.l : Row → List PyData
  | .lab n => [.str "label", .int n]
  | .tri l a => [.str "try", .int l, .int a]
  | .retry l => [.str "retry", .int l]
  | .trust l => [.str "trust", .int l]
  | .term v c l s => [.str "switch_on_term", .int v, .int c, .int l, .int s]
  | .con t d => [.str "switch_on_constant", .tuple (t.map conE), .int d]
  | .str t d => [.str "switch_on_structure", .tuple (t.map strE), .int d]
  | .exec n => [.str "execute", .int n]
  | .fail => [.str "fail"]
noncomputable def Row.d (r : Row) : PyData := .tuple r.l
noncomputable def labs : List Row → List Int
  | [] => []
  | .lab n :: r => n :: labs r
  | _ :: r => labs r
theorem labs_app (a b : List Row) : labs (a ++ b) = labs a ++ labs b := by
  induction a with
  | nil => rfl
  | cons r a ih => cases r <;> simp only [List.cons_append, labs, ih]

noncomputable def pickL (k : Kd) (v c l s : Int) : Int := match k with
  | .var => v
  | .const => c
  | .list => l
  | .struct => s

-- from where a run is safe, and finds no more than b places
noncomputable def Jump (X : Nat → Int → Prop) (S : Nat → List Row → Prop) (b : Nat) (rest : List Row) (l : Int) : Prop := 1 ≤ b ∧ (l = -1 ∨ X b l ∨ ∃ pre suf, rest = pre ++ .lab l :: suf ∧ S b (.lab l :: suf))
noncomputable def sstep (X : Nat → Int → Prop) (cnt : Nat) (ks : List PyData) (k : Kd) (S : Nat → List Row → Prop) (b : Nat) : List Row → Prop
  | [] => False
  | .lab n :: rest => 1 ≤ b ∧ ((0 ≤ n ∧ n < cnt) ∨ ((cnt : Int) ≤ n ∧ S b rest))
  | .tri l _ :: rest => ∃ b1 b2, b1 + b2 ≤ b ∧ Jump X S b1 rest l ∧ S b2 rest
  | .retry l :: rest => ∃ b1 b2, b1 + b2 ≤ b ∧ Jump X S b1 rest l ∧ S b2 rest
  | .trust l :: rest => Jump X S b rest l
  | .term v c l s :: rest => Jump X S b rest (pickL k v c l s)
  | .con t d :: rest => k = .const ∧ (∀ e ∈ t, kConst e.1 e.2.1 ∈ ks ∧ Jump X S b rest e.2.2) ∧ Jump X S b rest d
  | .str t d :: rest => k = .struct ∧ (∀ e ∈ t, kStruct e.1 ∈ ks ∧ Jump X S b rest e.2) ∧ Jump X S b rest d
  | .exec _ :: _ => False
  | .fail :: _ => False
theorem Jump.mono {X Y : Nat → Int → Prop} {S S' : Nat → List Row → Prop} {b : Nat} {rest : List Row} {l : Int} (hX : ∀ b l, X b l → Y b l) (hS : ∀ b r, S b r → S' b r) (h : Jump X S b rest l) : Jump Y S' b rest l := by
  obtain ⟨h0, h⟩ := h
  refine ⟨h0, ?_⟩
  rcases h with h | h | ⟨p, s, e, q⟩
  · exact .inl h
  · exact .inr (.inl (hX b l h))
  · exact .inr (.inr ⟨p, s, e, hS _ _ q⟩)
theorem sstep.mono {X Y : Nat → Int → Prop} {cnt : Nat} {ks : List PyData} {k : Kd} {S S' : Nat → List Row → Prop} {b : Nat} {r : List Row} (hX : ∀ b l, X b l → Y b l) (hS : ∀ b r, S b r → S' b r) (h : sstep X cnt ks k S b r) : sstep Y cnt ks k S' b r := by
  cases r with
  | nil => exact h
  | cons a r =>
    cases a with
    | lab n => exact ⟨h.1, h.2.imp id fun q => ⟨q.1, hS _ _ q.2⟩⟩
    | tri l a => obtain ⟨b1, b2, hb, h1, h2⟩ := h; exact ⟨b1, b2, hb, h1.mono hX hS, hS _ _ h2⟩
    | retry l => obtain ⟨b1, b2, hb, h1, h2⟩ := h; exact ⟨b1, b2, hb, h1.mono hX hS, hS _ _ h2⟩
    | trust l => exact Jump.mono hX hS h
    | term v c l s => exact Jump.mono hX hS h
    | con t d => exact ⟨h.1, fun e he => ⟨(h.2.1 e he).1, (h.2.1 e he).2.mono hX hS⟩, h.2.2.mono hX hS⟩
    | str t d => exact ⟨h.1, fun e he => ⟨(h.2.1 e he).1, (h.2.1 e he).2.mono hX hS⟩, h.2.2.mono hX hS⟩
    | exec n => exact h
    | fail => exact h
/-- the least such -/
noncomputable def Safe (X : Nat → Int → Prop) (cnt : Nat) (ks : List PyData) (k : Kd) (b : Nat) (rows : List Row) : Prop := ∀ S : Nat → List Row → Prop, (∀ b r, sstep X cnt ks k S b r → S b r) → S b rows
section
variable {X Y : Nat → Int → Prop} {cnt : Nat} {ks : List PyData} {k : Kd} {b : Nat} {rows : List Row}
theorem Safe.intro (h : sstep X cnt ks k (Safe X cnt ks k) b rows) : Safe X cnt ks k b rows := fun S hS => hS _ _ (h.mono (fun _ _ q => q) fun b r hr => hr S hS)
theorem Safe.ind {Q : Nat → List Row → Prop} (h : Safe X cnt ks k b rows) (hQ : ∀ b r, sstep X cnt ks k (fun b r => Safe X cnt ks k b r ∧ Q b r) b r → Q b r) : Q b rows := by
  refine (h (fun b r => Safe X cnt ks k b r ∧ Q b r) fun b r hr => ⟨Safe.intro (hr.mono (fun _ _ q => q) fun b r q => q.1), hQ b r hr⟩).2
theorem Safe.elim (h : Safe X cnt ks k b rows) : sstep X cnt ks k (Safe X cnt ks k) b rows := h.ind (Q := fun b r => sstep X cnt ks k (Safe X cnt ks k) b r) fun b r hr => hr.mono (fun _ _ q => q) fun b r q => q.1
theorem Safe.monoX (h : Safe X cnt ks k b rows) (hX : ∀ b l, X b l → Y b l) : Safe Y cnt ks k b rows := h.ind (Q := fun b r => Safe Y cnt ks k b r) fun b r hr => Safe.intro (hr.mono hX fun b r q => q.2)

theorem Jump.app {S S' : Nat → List Row → Prop} {rest more : List Row} {l : Int} (hX : ∀ b l, 1 ≤ b → X b l → Jump Y S' b more l) (hS : ∀ b r, S b r → S' b (r ++ more)) (h : Jump X S b rest l) : Jump Y S' b (rest ++ more) l := by
  obtain ⟨h0, h⟩ := h
  refine ⟨h0, ?_⟩
  rcases h with h | h | ⟨p, s, rfl, q⟩
  · exact .inl h
  · rcases (hX b l h0 h).2 with q | q | ⟨p, s, rfl, q⟩
    · exact .inl q
    · exact .inr (.inl q)
    · exact .inr (.inr ⟨rest ++ p, s, by simp, q⟩)
  · exact .inr (.inr ⟨p, s ++ more, by simp, hS _ _ q⟩)
/-- more stands behind -/
theorem Safe.app {more : List Row} (h : Safe X cnt ks k b rows) (hX : ∀ b l, 1 ≤ b → X b l → Jump Y (Safe Y cnt ks k) b more l) : Safe Y cnt ks k b (rows ++ more) := by
  refine h.ind (Q := fun b r => Safe Y cnt ks k b (r ++ more)) fun b r hr => Safe.intro ?_
  have hS : ∀ b r, (Safe X cnt ks k b r ∧ Safe Y cnt ks k b (r ++ more)) → Safe Y cnt ks k b (r ++ more) := fun b r q => q.2
  cases r with
  | nil => exact hr.elim
  | cons a r =>
    cases a with
    | lab n => exact ⟨hr.1, hr.2.imp id fun q => ⟨q.1, q.2.2⟩⟩
    | tri l a => obtain ⟨b1, b2, hb, h1, h2⟩ := hr; exact ⟨b1, b2, hb, h1.app hX hS, h2.2⟩
    | retry l => obtain ⟨b1, b2, hb, h1, h2⟩ := hr; exact ⟨b1, b2, hb, h1.app hX hS, h2.2⟩
    | trust l => exact Jump.app hX hS hr
    | term v c l s => exact Jump.app hX hS hr
    | con t d => exact ⟨hr.1, fun e he => ⟨(hr.2.1 e he).1, (hr.2.1 e he).2.app hX hS⟩, hr.2.2.app hX hS⟩
    | str t d => exact ⟨hr.1, fun e he => ⟨(hr.2.1 e he).1, (hr.2.1 e he).2.app hX hS⟩, hr.2.2.app hX hS⟩
    | exec n => exact hr.elim
    | fail => exact hr.elim
theorem Jump.pre {S : Nat → List Row → Prop} {rest pre : List Row} {l : Int} (h : Jump X S b rest l) : Jump X S b (pre ++ rest) l := by
  obtain ⟨h0, h⟩ := h
  refine ⟨h0, ?_⟩
  rcases h with h | h | ⟨p, s, rfl, q⟩
  · exact .inl h
  · exact .inr (.inl h)
  · exact .inr (.inr ⟨pre ++ p, s, by simp, q⟩)
noncomputable def UpX (X : Nat → Int → Prop) : Prop := ∀ b b' l, b ≤ b' → X b l → X b' l
theorem Jump.up {S : Nat → List Row → Prop} {rest : List Row} {l : Int} {b' : Nat} (h : Jump X S b rest l) (hb : b ≤ b') (hX : UpX X) (hS : ∀ r, S b r → S b' r) : Jump X S b' rest l := by
  obtain ⟨h0, h⟩ := h
  refine ⟨Nat.le_trans h0 hb, ?_⟩
  rcases h with h | h | ⟨p, s, rfl, q⟩
  · exact .inl h
  · exact .inr (.inl (hX _ _ _ hb h))
  · exact .inr (.inr ⟨p, s, rfl, hS _ q⟩)
theorem Safe.up (h : Safe X cnt ks k b rows) {b' : Nat} (hb : b ≤ b') (hX : UpX X) : Safe X cnt ks k b' rows := by
  refine (h.ind (Q := fun b r => ∀ b', b ≤ b' → Safe X cnt ks k b' r) fun b r hr b' hb => Safe.intro ?_) b' hb
  have hS : ∀ {b b' : Nat}, b ≤ b' → ∀ r, (Safe X cnt ks k b r ∧ ∀ b', b ≤ b' → Safe X cnt ks k b' r) → Safe X cnt ks k b' r := fun hb r q => q.2 _ hb
  have w : ∀ b r, (Safe X cnt ks k b r ∧ ∀ b', b ≤ b' → Safe X cnt ks k b' r) → Safe X cnt ks k b r := fun b r q => q.1
  have ju : ∀ {rest l}, Jump X (fun b r => Safe X cnt ks k b r ∧ ∀ b', b ≤ b' → Safe X cnt ks k b' r) b rest l → Jump X (Safe X cnt ks k) b' rest l := by
    intro rest l q
    obtain ⟨h0, q⟩ := q
    refine ⟨Nat.le_trans h0 hb, ?_⟩
    rcases q with q | q | ⟨p, s, rfl, q⟩
    · exact .inl q
    · exact .inr (.inl (hX _ _ _ hb q))
    · exact .inr (.inr ⟨p, s, rfl, q.2 _ hb⟩)
  cases r with
  | nil => exact hr.elim
  | cons a r =>
    cases a with
    | lab n => exact ⟨Nat.le_trans hr.1 hb, hr.2.imp id fun q => ⟨q.1, q.2.2 _ hb⟩⟩
    | tri l a => obtain ⟨b1, b2, hb1, h1, h2⟩ := hr; exact ⟨b1, b2, by omega, h1.mono (fun _ _ q => q) w, h2.1⟩
    | retry l => obtain ⟨b1, b2, hb1, h1, h2⟩ := hr; exact ⟨b1, b2, by omega, h1.mono (fun _ _ q => q) w, h2.1⟩
    | trust l => exact ju hr
    | term v c l s => exact ju hr
    | con t d => exact ⟨hr.1, fun e he => ⟨(hr.2.1 e he).1, ju (hr.2.1 e he).2⟩, ju hr.2.2⟩
    | str t d => exact ⟨hr.1, fun e he => ⟨(hr.2.1 e he).1, ju (hr.2.1 e he).2⟩, ju hr.2.2⟩
    | exec n => exact hr.elim
    | fail => exact hr.elim

-- a row is spoiled: its target is turned to a clause, or to the failure
noncomputable def Alt1 (X : Int → Prop) (a b : Int) : Prop := b = a ∨ b = -1 ∨ X b
inductive AltR (X : Int → Prop) : Row → Row → Prop
  | refl (r) : AltR X r r
  | tri {l l' a} : Alt1 X l l' → AltR X (.tri l a) (.tri l' a)
  | retry {l l'} : Alt1 X l l' → AltR X (.retry l) (.retry l')
  | trust {l l'} : Alt1 X l l' → AltR X (.trust l) (.trust l')
  | term {v c l s v' c' l' s'} : Alt1 X v v' → Alt1 X c c' → Alt1 X l l' → Alt1 X s s' → AltR X (.term v c l s) (.term v' c' l' s')
  | con {t t' d d'} : (∀ e' ∈ t', ∃ e ∈ t, e'.1 = e.1 ∧ e'.2.1 = e.2.1 ∧ Alt1 X e.2.2 e'.2.2) → Alt1 X d d' → AltR X (.con t d) (.con t' d')
  | str {t t' d d'} : (∀ e' ∈ t', ∃ e ∈ t, e'.1 = e.1 ∧ Alt1 X e.2 e'.2) → Alt1 X d d' → AltR X (.str t d) (.str t' d')
inductive Alts (X : Int → Prop) : List Row → List Row → Prop
  | nil : Alts X [] []
  | cons {a b r s} : AltR X a b → Alts X r s → Alts X (a :: r) (b :: s)
theorem Alts.refl (X : Int → Prop) : ∀ r, Alts X r r
  | [] => .nil
  | a :: r => .cons (.refl a) (Alts.refl X r)
theorem Alts.split {X : Int → Prop} {l : Int} : ∀ {p s r' : List Row}, Alts X (p ++ .lab l :: s) r' → ∃ p' s', r' = p' ++ .lab l :: s' ∧ Alts X (.lab l :: s) (.lab l :: s')
  | [], s, _, .cons a q => by cases a; exact ⟨[], _, rfl, .cons (.refl _) q⟩
  | a :: p, s, _, .cons b q => by
    obtain ⟨p', s', rfl, h⟩ := Alts.split (p := p) q
    exact ⟨_ :: p', s', rfl, h⟩
theorem Alts.labs {X : Int → Prop} {r r' : List Row} (h : Alts X r r') : Mine.labs r' = Mine.labs r := by
  induction h with
  | nil => rfl
  | @cons a b r s ab q ih =>
    cases ab with
    | refl => cases a <;> first | exact ih | exact congrArg (List.cons _) ih
    | _ => exact ih
theorem Alts.length {X : Int → Prop} {r r' : List Row} (h : Alts X r r') : r'.length = r.length := by
  induction h with
  | nil => rfl
  | cons _ _ ih => simp [ih]
theorem Jump.alt {Z : Int → Prop} {S S' : Nat → List Row → Prop} {rest rest' : List Row} {l l' : Int} (ha : Alts Z rest rest') (hl : Alt1 Z l l') (hZ : ∀ b l, 1 ≤ b → Z l → X b l) (hS : ∀ b r r', Alts Z r r' → S b r → S' b r') (h : Jump X S b rest l) : Jump X S' b rest' l' := by
  obtain ⟨h0, h⟩ := h
  refine ⟨h0, ?_⟩
  rcases hl with rfl | rfl | hl
  · rcases h with h | h | ⟨p, s, rfl, q⟩
    · exact .inl h
    · exact .inr (.inl h)
    · obtain ⟨p', s', rfl, h'⟩ := ha.split
      exact .inr (.inr ⟨p', s', rfl, hS _ _ _ h' q⟩)
  · exact .inl rfl
  · exact .inr (.inl (hZ b _ h0 hl))
theorem Safe.alt {Z : Int → Prop} {rows' : List Row} (h : Safe X cnt ks k b rows) (hZ : ∀ b l, 1 ≤ b → Z l → X b l) (ha : Alts Z rows rows') : Safe X cnt ks k b rows' := by
  refine (h.ind (Q := fun b r => ∀ r', Alts Z r r' → Safe X cnt ks k b r') fun b r hr r' ha => Safe.intro ?_) rows' ha
  have hS : ∀ b r r', Alts Z r r' → (Safe X cnt ks k b r ∧ ∀ r', Alts Z r r' → Safe X cnt ks k b r') → Safe X cnt ks k b r' := fun b r r' a q => q.2 r' a
  have r1 : ∀ l, Alt1 Z l l := fun l => .inl rfl
  cases ha with
  | nil => exact hr.elim
  | @cons a b r s ab q =>
    cases ab with
    | refl =>
      cases a with
      | lab n => exact ⟨hr.1, hr.2.imp id fun w => ⟨w.1, w.2.2 _ q⟩⟩
      | tri l a => obtain ⟨b1, b2, hb, h1, h2⟩ := hr; exact ⟨b1, b2, hb, h1.alt q (r1 _) hZ hS, h2.2 _ q⟩
      | retry l => obtain ⟨b1, b2, hb, h1, h2⟩ := hr; exact ⟨b1, b2, hb, h1.alt q (r1 _) hZ hS, h2.2 _ q⟩
      | trust l => exact Jump.alt q (r1 _) hZ hS hr
      | term v c l s => exact Jump.alt q (r1 _) hZ hS hr
      | con t d => exact ⟨hr.1, fun e he => ⟨(hr.2.1 e he).1, (hr.2.1 e he).2.alt q (r1 _) hZ hS⟩, hr.2.2.alt q (r1 _) hZ hS⟩
      | str t d => exact ⟨hr.1, fun e he => ⟨(hr.2.1 e he).1, (hr.2.1 e he).2.alt q (r1 _) hZ hS⟩, hr.2.2.alt q (r1 _) hZ hS⟩
      | exec n => exact hr.elim
      | fail => exact hr.elim
    | tri hl => obtain ⟨b1, b2, hb, h1, h2⟩ := hr; exact ⟨b1, b2, hb, h1.alt q hl hZ hS, h2.2 _ q⟩
    | retry hl => obtain ⟨b1, b2, hb, h1, h2⟩ := hr; exact ⟨b1, b2, hb, h1.alt q hl hZ hS, h2.2 _ q⟩
    | trust hl => exact Jump.alt q hl hZ hS hr
    | term hv hc hl hs =>
      refine Jump.alt q ?_ hZ hS hr
      cases k
      · exact hv
      · exact hl
      · exact hs
      · exact hc
    | con ht hd =>
      refine ⟨hr.1, fun e' he => ?_, hr.2.2.alt q hd hZ hS⟩
      obtain ⟨e, he1, e1, e2, e3⟩ := ht e' he
      rw [e1, e2]
      exact ⟨(hr.2.1 e he1).1, (hr.2.1 e he1).2.alt q e3 hZ hS⟩
    | str ht hd =>
      refine ⟨hr.1, fun e' he => ?_, hr.2.2.alt q hd hZ hS⟩
      obtain ⟨e, he1, e1, e3⟩ := ht e' he
      rw [e1]
      exact ⟨(hr.2.1 e he1).1, (hr.2.1 e he1).2.alt q e3 hZ hS⟩
end
noncomputable def after (l : Int) : List Row → List Row
  | [] => []
  | .lab n :: rest => if n = l then .lab n :: rest else after l rest
  | .tri _ _ :: rest => after l rest
  | .retry _ :: rest => after l rest
  | .trust _ :: rest => after l rest
  | .term _ _ _ _ :: rest => after l rest
  | .con _ _ :: rest => after l rest
  | .str _ _ :: rest => after l rest
  | .exec _ :: rest => after l rest
  | .fail :: rest => after l rest
theorem after_len (l : Int) : ∀ r, (after l r).length ≤ r.length
  | [] => by simp [after]
  | r :: rest => by
    have := after_len l rest
    cases r <;> simp only [after, List.length_cons] <;> try omega
    split
    · simp
    · omega
theorem not_lab {pre suf : List Row} {l : Int} (h : (labs (pre ++ .lab l :: suf)).Nodup) : l ∉ labs pre := by
  rw [labs_app] at h
  have := (List.nodup_append.mp h).2.2
  intro q
  exact this l q l (by simp [labs]) rfl
theorem after_split {l : Int} {suf : List Row} : ∀ {pre : List Row}, l ∉ labs pre → after l (pre ++ .lab l :: suf) = .lab l :: suf
  | [], _ => by simp [after]
  | r :: pre, h => by
    cases r with
    | lab n =>
      simp only [labs, List.mem_cons, not_or] at h
      have hn : n ≠ l := fun e => h.1 e.symm
      simp only [List.cons_append, after, if_neg hn]
      exact after_split h.2
    | _ =>
      simp only [List.cons_append, after]
      exact after_split h

noncomputable def lookC (t n : Int) : List (Int × Int × Int) → Int → Int
  | [], d => d
  | e :: r, d => if e.1 = t ∧ e.2.1 = n then e.2.2 else lookC t n r d
noncomputable def lookS (n : Int) : List (Int × Int) → Int → Int
  | [], d => d
  | e :: r, d => if e.1 = n then e.2 else lookS n r d
noncomputable def tgC (y : Ky) (t : List (Int × Int × Int)) (d : Int) : Int := match y with
  | .const a b => lookC a b t d
  | _ => d
noncomputable def tgS (y : Ky) (t : List (Int × Int)) (d : Int) : Int := match y with
  | .struct n => lookS n t d
  | _ => d
noncomputable def run (cnt : Nat) (y : Ky) : List Row → List Int
  | [] => []
  | .lab n :: rest => if n < cnt then [n] else run cnt y rest
  | .tri l _ :: rest => (if l = -1 then [] else run cnt y (after l rest)) ++ run cnt y rest
  | .retry l :: rest => (if l = -1 then [] else run cnt y (after l rest)) ++ run cnt y rest
  | .trust l :: rest => if l = -1 then [] else run cnt y (after l rest)
  | .term v c l s :: rest => if pickL y.kd v c l s = -1 then [] else run cnt y (after (pickL y.kd v c l s) rest)
  | .con t d :: rest => if tgC y t d = -1 then [] else run cnt y (after (tgC y t d) rest)
  | .str t d :: rest => if tgS y t d = -1 then [] else run cnt y (after (tgS y t d) rest)
  | .exec _ :: _ => []
  | .fail :: _ => []
termination_by r => r.length
decreasing_by
  all_goals simp_wf
  all_goals first
    | omega
    | (have := after_len l rest; omega)
    | (have := after_len (pickL y.kd v c l s) rest; omega)
    | (have := after_len (tgC y t d) rest; omega)
    | (have := after_len (tgS y t d) rest; omega)

section
variable {cnt : Nat} {ks : List PyData} {k : Kd} {b : Nat} {rows : List Row}
noncomputable abbrev noX : Nat → Int → Prop := fun _ _ => False
/-- what stands behind a jump -/
theorem Jump.after {S : Nat → List Row → Prop} {rest : List Row} {l : Int} (h : Jump noX S b rest l) (hn : (labs rest).Nodup) (hl : l ≠ -1) : ∃ pre suf, rest = pre ++ .lab l :: suf ∧ Mine.after l rest = .lab l :: suf ∧ S b (.lab l :: suf) ∧ (labs (.lab l :: suf)).Nodup := by
  obtain ⟨_, h⟩ := h
  rcases h with h | h | ⟨p, s, rfl, q⟩
  · exact absurd h hl
  · exact h.elim
  · refine ⟨p, s, rfl, after_split (not_lab hn), q, ?_⟩
    rw [labs_app] at hn
    exact (List.nodup_append.mp hn).2.1
theorem nodup_tail {r : Row} {rest : List Row} (h : (labs (r :: rest)).Nodup) : (labs rest).Nodup := by
  cases r with
  | lab n => exact (List.nodup_cons.mp h).2
  | _ => exact h

theorem lookC_cases {t n : Int} {tb : List (Int × Int × Int)} {d : Int} : (lookC t n tb d = d ∧ ∀ e ∈ tb, ¬ (e.1 = t ∧ e.2.1 = n)) ∨ ∃ e ∈ tb, e.1 = t ∧ e.2.1 = n ∧ lookC t n tb d = e.2.2 := by
  induction tb with
  | nil => exact .inl ⟨rfl, by simp⟩
  | cons e r ih =>
    rw [lookC]
    by_cases h : e.1 = t ∧ e.2.1 = n
    · rw [if_pos h]; exact .inr ⟨e, by simp, h.1, h.2, rfl⟩
    · rw [if_neg h]
      rcases ih with ⟨h1, h2⟩ | ⟨e', h1, h2, h3, h4⟩
      · refine .inl ⟨h1, fun x hx => ?_⟩
        rcases List.mem_cons.mp hx with rfl | hx
        · exact h
        · exact h2 x hx
      · exact .inr ⟨e', List.mem_cons_of_mem _ h1, h2, h3, h4⟩
theorem lookS_cases {n : Int} {tb : List (Int × Int)} {d : Int} : (lookS n tb d = d ∧ ∀ e ∈ tb, e.1 ≠ n) ∨ ∃ e ∈ tb, e.1 = n ∧ lookS n tb d = e.2 := by
  induction tb with
  | nil => exact .inl ⟨rfl, by simp⟩
  | cons e r ih =>
    rw [lookS]
    by_cases h : e.1 = n
    · rw [if_pos h]; exact .inr ⟨e, by simp, h, rfl⟩
    · rw [if_neg h]
      rcases ih with ⟨h1, h2⟩ | ⟨e', h1, h2, h3⟩
      · refine .inl ⟨h1, fun x hx => ?_⟩
        rcases List.mem_cons.mp hx with rfl | hx
        · exact h
        · exact h2 x hx
      · exact .inr ⟨e', List.mem_cons_of_mem _ h1, h2, h3⟩
theorem tgC_jump {S : Nat → List Row → Prop} {rest : List Row} {y : Ky} {t : List (Int × Int × Int)} {d : Int} (h : (∀ e ∈ t, kConst e.1 e.2.1 ∈ ks ∧ Jump noX S b rest e.2.2) ∧ Jump noX S b rest d) : Jump noX S b rest (tgC y t d) := by
  cases y with
  | const a c =>
    rcases lookC_cases (t := a) (n := c) (tb := t) (d := d) with ⟨h1, _⟩ | ⟨e, he, _, _, h1⟩
    · show Jump noX S b rest (lookC a c t d); rw [h1]; exact h.2
    · show Jump noX S b rest (lookC a c t d); rw [h1]; exact (h.1 e he).2
  | _ => exact h.2
theorem tgS_jump {S : Nat → List Row → Prop} {rest : List Row} {y : Ky} {t : List (Int × Int)} {d : Int} (h : (∀ e ∈ t, kStruct e.1 ∈ ks ∧ Jump noX S b rest e.2) ∧ Jump noX S b rest d) : Jump noX S b rest (tgS y t d) := by
  cases y with
  | struct a =>
    rcases lookS_cases (n := a) (tb := t) (d := d) with ⟨h1, _⟩ | ⟨e, he, _, h1⟩
    · show Jump noX S b rest (lookS a t d); rw [h1]; exact h.2
    · show Jump noX S b rest (lookS a t d); rw [h1]; exact (h.1 e he).2
  | _ => exact h.2

/-- the places that a run finds are places of clauses, and not too many -/
theorem run_range {y : Ky} (hk : y.kd = k) (h : Safe noX cnt ks k b rows) (hn : (labs rows).Nodup) : (∀ x ∈ run cnt y rows, 0 ≤ x ∧ x < (cnt : Int)) ∧ (run cnt y rows).length ≤ b := by
  subst hk
  refine h.ind (Q := fun b r => (labs r).Nodup → (∀ x ∈ run cnt y r, 0 ≤ x ∧ x < (cnt : Int)) ∧ (run cnt y r).length ≤ b) (fun b r hr hn => ?_) hn
  have jmp : ∀ {b : Nat} {rest : List Row} {l : Int}, (labs rest).Nodup → Jump noX (fun b r => Safe noX cnt ks y.kd b r ∧ ((labs r).Nodup → (∀ x ∈ run cnt y r, 0 ≤ x ∧ x < (cnt : Int)) ∧ (run cnt y r).length ≤ b)) b rest l → (∀ x ∈ (if l = -1 then [] else run cnt y (Mine.after l rest)), 0 ≤ x ∧ x < (cnt : Int)) ∧ (if l = -1 then [] else run cnt y (Mine.after l rest)).length ≤ b := by
    intro b rest l hn h
    split
    · exact ⟨fun x hx => (by cases hx), Nat.zero_le _⟩
    · rename_i hl
      obtain ⟨p, s, _, ha, q, hn'⟩ := h.after hn hl
      rw [ha]
      exact q.2 hn'
  have two : ∀ {b b1 b2 : Nat} {f1 f2 : List Int}, b1 + b2 ≤ b → ((∀ x ∈ f1, 0 ≤ x ∧ x < (cnt : Int)) ∧ f1.length ≤ b1) → ((∀ x ∈ f2, 0 ≤ x ∧ x < (cnt : Int)) ∧ f2.length ≤ b2) → (∀ x ∈ f1 ++ f2, 0 ≤ x ∧ x < (cnt : Int)) ∧ (f1 ++ f2).length ≤ b := by
    intro b b1 b2 f1 f2 hb h1 h2
    refine ⟨fun x hx => ?_, by rw [List.length_append]; omega⟩
    rcases List.mem_append.mp hx with hx | hx
    · exact h1.1 x hx
    · exact h2.1 x hx
  cases r with
  | nil => exact hr.elim
  | cons a r =>
    have hn' := nodup_tail hn
    cases a with
    | lab n =>
      rw [run]
      obtain ⟨h0, hr⟩ := hr
      rcases hr with h1 | h1
      · rw [if_pos h1.2]
        refine ⟨fun x hx => ?_, h0⟩
        obtain rfl := List.mem_singleton.mp hx
        exact h1
      · rw [if_neg (by omega)]
        exact h1.2.2 hn'
    | tri l a =>
      rw [run]
      obtain ⟨b1, b2, hb, h1, h2⟩ := hr
      exact two hb (jmp hn' h1) (h2.2 hn')
    | retry l =>
      rw [run]
      obtain ⟨b1, b2, hb, h1, h2⟩ := hr
      exact two hb (jmp hn' h1) (h2.2 hn')
    | trust l => rw [run]; exact jmp hn' hr
    | term v c l s => rw [run]; exact jmp hn' hr
    | con t d => rw [run]; exact jmp hn' (tgC_jump ⟨hr.2.1, hr.2.2⟩)
    | str t d => rw [run]; exact jmp hn' (tgS_jump ⟨hr.2.1, hr.2.2⟩)
    | exec n => exact hr.elim
    | fail => exact hr.elim

/-- keys of one kind that no clause has are not told apart -/
theorem run_same {y y' : Ky} (hk : y.kd = k) (hk' : y'.kd = k) (hy : y.d ∉ ks) (hy' : y'.d ∉ ks) (h : Safe noX cnt ks k b rows) (hn : (labs rows).Nodup) : run cnt y rows = run cnt y' rows := by
  have hkk : y.kd = y'.kd := hk.trans hk'.symm
  refine h.ind (Q := fun b r => (labs r).Nodup → run cnt y r = run cnt y' r) (fun b r hr hn => ?_) hn
  have jmp : ∀ {b : Nat} {rest : List Row} {l : Int}, (labs rest).Nodup → Jump noX (fun b r => Safe noX cnt ks k b r ∧ ((labs r).Nodup → run cnt y r = run cnt y' r)) b rest l → (if l = -1 then [] else run cnt y (Mine.after l rest)) = (if l = -1 then [] else run cnt y' (Mine.after l rest)) := by
    intro b rest l hn h
    split
    · rfl
    · rename_i hl
      obtain ⟨p, s, _, ha, q, hn'⟩ := h.after hn hl
      rw [ha]
      exact q.2 hn'
  have nC : ∀ {t : List (Int × Int × Int)} {d : Int} (z : Ky), z.d ∉ ks → (∀ e ∈ t, kConst e.1 e.2.1 ∈ ks) → tgC z t d = d := by
    intro t d z hz ht
    cases z with
    | const a b =>
      rcases lookC_cases (t := a) (n := b) (tb := t) (d := d) with ⟨h1, _⟩ | ⟨e, he, e1, e2, h1⟩
      · exact h1
      · exact absurd (ht e he) (by rw [e1, e2]; exact hz)
    | _ => rfl
  have nS : ∀ {t : List (Int × Int)} {d : Int} (z : Ky), z.d ∉ ks → (∀ e ∈ t, kStruct e.1 ∈ ks) → tgS z t d = d := by
    intro t d z hz ht
    cases z with
    | struct a =>
      rcases lookS_cases (n := a) (tb := t) (d := d) with ⟨h1, _⟩ | ⟨e, he, e1, h1⟩
      · exact h1
      · exact absurd (ht e he) (by rw [e1]; exact hz)
    | _ => rfl
  cases r with
  | nil => exact hr.elim
  | cons a r =>
    have hn' := nodup_tail hn
    cases a with
    | lab n =>
      rw [run, run]
      split
      · rfl
      · rename_i hlt
        rcases hr.2 with h1 | h1
        · exact absurd h1.2 hlt
        · exact h1.2.2 hn'
    | tri l a => obtain ⟨b1, b2, hb, h1, h2⟩ := hr; rw [run, run, jmp hn' h1, h2.2 hn']
    | retry l => obtain ⟨b1, b2, hb, h1, h2⟩ := hr; rw [run, run, jmp hn' h1, h2.2 hn']
    | trust l => rw [run, run]; exact jmp hn' hr
    | term v c l s => rw [run, run, ← hkk, hk]; exact jmp hn' hr
    | con t d =>
      rw [run, run, nC y hy (fun e he => (hr.2.1 e he).1), nC y' hy' (fun e he => (hr.2.1 e he).1)]
      exact jmp hn' hr.2.2
    | str t d =>
      rw [run, run, nS y hy (fun e he => (hr.2.1 e he).1), nS y' hy' (fun e he => (hr.2.1 e he).1)]
      exact jmp hn' hr.2.2
    | exec n => exact hr.elim
    | fail => exact hr.elim
end
noncomputable def Row.nm : Row → Str
  | .lab _ => "label"
  | .tri _ _ => "try"
  | .retry _ => "retry"
  | .trust _ => "trust"
  | .term _ _ _ _ => "switch_on_term"
  | .con _ _ => "switch_on_constant"
  | .str _ _ => "switch_on_structure"
  | .exec _ => "execute"
  | .fail => "fail"
theorem Row.head (r : Row) : r.l[0]? = some (.str r.nm) := by cases r <;> rfl

noncomputable def runs (cnt : Nat) (y : Ky) (full : List Row) (pend : List Nat) : List Int := (pend.reverse.map fun p => run cnt y (full.drop p)).flatten
theorem runs_snoc {cnt : Nat} {y : Ky} {full : List Row} {pend : List Nat} {p : Nat} : runs cnt y full (pend ++ [p]) = run cnt y (full.drop p) ++ runs cnt y full pend := by
  simp [runs]
noncomputable def wsum (L : Nat) (pend : List Nat) : Nat := (pend.map fun p => 3 ^ (L - p)).sum
theorem wsum_snoc {L : Nat} {pend : List Nat} {p : Nat} : wsum L (pend ++ [p]) = wsum L pend + 3 ^ (L - p) := by
  simp [wsum]

/-- the stack of a run -/
structure PInv (cnt : Nat) (y : Ky) (ks : List PyData) (full : List Row) (pend : List Nat) (acc : List Int) : Prop where
  safe : ∀ p ∈ pend, ∃ b, Safe noX cnt ks y.kd b (full.drop p)
  all : acc ++ runs cnt y full pend = run cnt y full
  idx : ∀ (i v : Nat), pend[i]? = some v → i ≤ v + 1
theorem PInv.lt {cnt : Nat} {y : Ky} {ks : List PyData} {full : List Row} {pend : List Nat} {acc : List Int} (h : PInv cnt y ks full pend acc) : ∀ p ∈ pend, p < full.length := by
  intro p hp
  obtain ⟨b, hs⟩ := h.safe p hp
  rcases Nat.lt_or_ge p full.length with q | q
  · exact q
  · rw [List.drop_eq_nil_of_le q] at hs; exact hs.elim.elim
theorem PInv.len {cnt : Nat} {y : Ky} {ks : List PyData} {full : List Row} {pend : List Nat} {acc : List Int} (h : PInv cnt y ks full pend acc) : pend.length ≤ full.length + 2 := by
  rcases Nat.eq_zero_or_pos pend.length with q | q
  · omega
  · have hlt : pend.length - 1 < pend.length := by omega
    have h1 := h.idx _ _ (List.getElem?_eq_getElem hlt)
    have h2 := h.lt _ (List.getElem_mem hlt)
    omega
theorem PInv.accLen {cnt : Nat} {y : Ky} {ks : List PyData} {full : List Row} {pend : List Nat} {acc : List Int} (h : PInv cnt y ks full pend acc) : acc.length ≤ (run cnt y full).length := by
  rw [← h.all, List.length_append]; omega

/-- what a row does -/
structure Does (cnt : Nat) (y : Ky) (ks : List PyData) (r : Row) (rest : List Row) (tg : Int) (fall : Bool) (emit : List Int) : Prop where
  run : run cnt y (r :: rest) = emit ++ (if tg = -1 then [] else Mine.run cnt y (after tg rest)) ++ (if fall then Mine.run cnt y rest else [])
  fallS : fall = true → ∃ b, Safe noX cnt ks y.kd b rest
  jump : ∃ b, Jump noX (Safe noX cnt ks y.kd) b rest tg
theorem drop_head {α : Type} {l : List α} {p : Nat} (h : p < l.length) : ∃ r, l[p]? = some r ∧ l.drop p = r :: l.drop (p + 1) := ⟨l[p], List.getElem?_eq_getElem h, List.drop_eq_getElem_cons h⟩

/-- the stack after a step -/
theorem PInv.step {cnt : Nat} {y : Ky} {ks : List PyData} {full : List Row} {pend : List Nat} {p : Nat} {acc emit : List Int} {r : Row} {tg : Int} {fall : Bool} (h : PInv cnt y ks full (pend ++ [p]) acc) (hn : (labs full).Nodup)
    (hr : full[p]? = some r) (hd : Does cnt y ks r (full.drop (p + 1)) tg fall emit) :
    (tg = -1 → PInv cnt y ks full (pend ++ (if fall then [p + 1] else [])) (acc ++ emit) ∧ wsum full.length (pend ++ (if fall then [p + 1] else [])) < wsum full.length (pend ++ [p])) ∧
    (tg ≠ -1 → ∃ q : Nat, full[q]? = some (.lab tg) ∧ PInv cnt y ks full (pend ++ (if fall then [p + 1] else []) ++ [q]) (acc ++ emit) ∧ wsum full.length (pend ++ (if fall then [p + 1] else []) ++ [q]) < wsum full.length (pend ++ [p])) := by
  have hlt : p < full.length := (List.getElem?_eq_some_iff.mp hr).1
  obtain ⟨r', hr', hdrop⟩ := drop_head hlt
  rw [hr] at hr'; cases hr'
  have hpw : 0 < 3 ^ (full.length - (p + 1)) := Nat.pow_pos (by decide)
  have hpw2 : 3 ^ (full.length - p) = 3 * 3 ^ (full.length - (p + 1)) := by
    rw [show full.length - p = (full.length - (p + 1)) + 1 by omega, Nat.pow_succ]; omega
  have hall := h.all
  rw [runs_snoc, hdrop, hd.run] at hall
  have hp1 : pend.length ≤ p + 1 := h.idx pend.length p (by simp)
  -- the stack with the place behind
  have idx1 : ∀ (i v : Nat), (pend ++ (if fall then [p + 1] else []))[i]? = some v → i ≤ v + 1 := by
    intro i v e
    rcases Nat.lt_or_ge i pend.length with q | q
    · rw [List.getElem?_append_left q] at e
      exact h.idx i v (by rw [List.getElem?_append_left q]; exact e)
    · rw [List.getElem?_append_right q] at e
      cases fall with
      | false => simp at e
      | true =>
        simp only [if_true] at e
        have hi : i - pend.length = 0 := by
          have := (List.getElem?_eq_some_iff.mp e).1
          simpa using this
        rw [hi] at e
        simp at e
        omega
  have safe1 : ∀ x ∈ pend ++ (if fall then [p + 1] else []), ∃ b, Safe noX cnt ks y.kd b (full.drop x) := by
    intro x hx
    rcases List.mem_append.mp hx with hx | hx
    · exact h.safe x (List.mem_append.mpr (.inl hx))
    · cases fall with
      | false => simp at hx
      | true =>
        simp only [if_true] at hx
        obtain rfl := List.mem_singleton.mp hx
        exact hd.fallS rfl
  have runs1 : runs cnt y full (pend ++ (if fall then [p + 1] else [])) = (if fall then Mine.run cnt y (full.drop (p + 1)) else []) ++ runs cnt y full pend := by
    cases fall with
    | false => simp
    | true => simp only [if_true]; exact runs_snoc
  have w1 : wsum full.length (pend ++ (if fall then [p + 1] else [])) ≤ wsum full.length pend + 3 ^ (full.length - (p + 1)) := by
    cases fall with
    | false => simp
    | true => simp only [if_true]; rw [wsum_snoc]; exact Nat.le_refl _
  constructor
  · intro ht
    refine ⟨⟨safe1, ?_, idx1⟩, ?_⟩
    · rw [runs1, ← hall, if_pos ht]; simp
    · rw [wsum_snoc, hpw2]; omega
  · intro ht
    obtain ⟨b, hj⟩ := hd.jump
    have hnr : (labs (full.drop (p + 1))).Nodup := by
      have := hn
      rw [← List.take_append_drop (p + 1) full, labs_app] at this
      exact (List.nodup_append.mp this).2.1
    obtain ⟨pre, suf, hrest, haft, hsafe, _⟩ := hj.after hnr ht
    have hq : full.drop (p + 1 + pre.length) = .lab tg :: suf := by
      rw [← List.drop_drop, hrest, List.drop_left]
    have hqlt : p + 1 + pre.length < full.length := by
      rcases Nat.lt_or_ge (p + 1 + pre.length) full.length with q | q
      · exact q
      · rw [List.drop_eq_nil_of_le q] at hq; cases hq
    obtain ⟨r', hr1, hr2⟩ := drop_head hqlt
    rw [hq] at hr2
    obtain ⟨rfl, _⟩ := List.cons.inj hr2
    refine ⟨p + 1 + pre.length, hr1, ⟨?_, ?_, ?_⟩, ?_⟩
    · intro x hx
      rcases List.mem_append.mp hx with hx | hx
      · exact safe1 x hx
      · obtain rfl := List.mem_singleton.mp hx
        rw [hq]; exact ⟨b, hsafe⟩
    · rw [runs_snoc, hq, runs1, ← hall, if_neg ht, haft]; simp
    · intro i v e
      rcases Nat.lt_or_ge i (pend ++ (if fall then [p + 1] else [])).length with q | q
      · rw [List.getElem?_append_left q] at e
        exact idx1 i v e
      · rw [List.getElem?_append_right q] at e
        have hi : i - (pend ++ (if fall then [p + 1] else [])).length = 0 := by
          have := (List.getElem?_eq_some_iff.mp e).1
          simpa using this
        rw [hi] at e
        simp at e
        have : (pend ++ (if fall then [p + 1] else [])).length ≤ pend.length + 1 := by
          cases fall <;> simp
        omega
    · rw [wsum_snoc, wsum_snoc, hpw2]
      have : 3 ^ (full.length - (p + 1 + pre.length)) ≤ 3 ^ (full.length - (p + 1)) := Nat.pow_le_pow_right (by decide) (by omega)
      omega
section
variable {C : Cx} {n : Nat} {env : Env} {m : Vars} {σ : AH} {P : V → AH → Prop} {PB : Bool → AH → Prop}

/-- a name's string against a string -/
theorem T_str {x : Str} {px p pos : Pos} {k : Nat} {s t : Str} (hx : m.lookup x = some (.str s)) (ok : PyData.strOk t = true) (h : PB (s == t) σ) : Tst C n env m (.Compare (.Name x px) [.Eq] [.Constant (.str t) k p] pos) σ PB := by
  refine T_cmp ?_
  refine E_var hx ?_
  refine E_str ?_ ok
  refine op_eq rfl rfl ⟨_, rfl, ?_⟩
  have : ∀ i : Decidable (PyData.str s = PyData.str t), @decide _ i = (s == t) := by
    intro i
    by_cases q : s = t
    · subst q; simp
    · have q' : PyData.str s ≠ PyData.str t := fun e => q (by injection e)
      rw [@decide_eq_false _ i q']; simp [q]
  rw [this]; exact h
section
variable {PO : Out → Vars → AH → Prop} {rest : List Stmt}
theorem X_ifT {test : Expr} {body orelse : List Stmt} {pos : Pos} (h : Tst C n env m test σ (fun b σ1 => b = true ∧ Ex C n env m body σ1 (Then C n env rest PO))) : Ex C n env m (.If test body orelse pos :: rest) σ PO :=
  X_if (W.mono h fun b σ1 ⟨e, q⟩ => ⟨fun _ => q, fun e' => by rw [e] at e'; cases e'⟩)
theorem X_ifF {test : Expr} {body orelse : List Stmt} {pos : Pos} (h : Tst C n env m test σ (fun b σ1 => b = false ∧ Ex C n env m orelse σ1 (Then C n env rest PO))) : Ex C n env m (.If test body orelse pos :: rest) σ PO :=
  X_if (W.mono h fun b σ1 ⟨e, q⟩ => ⟨fun e' => (by rw [e] at e'; cases e'), fun _ => q⟩)
end

/-- block[place] -/
theorem E_row {x y : Str} {px py p : Pos} {B : Addr} {full : List Row} {i : Nat} {r : Row} (hx : m.lookup x = some (.obj B)) (hy : m.lookup y = some (.int (i : Int))) (eB : σ B = some (.list (dats (full.map Row.d)))) (hi : full[i]? = some r) (hl : full.length ≤ 100000) (h : P (.tup r.l) σ) :
    Ev C n env m (.Subscript (.Name x px) (.Name y py) p) σ P := by
  have hlt := (List.getElem?_eq_some_iff.mp hi).1
  exact E_sub (E_var hx (E_var hy (op_item_list (v := .tup r.l) eB (by omega) (by rw [List.getElem?_map, List.getElem?_map, hi]; rfl) h)))
theorem E_rowj {x y : Str} {px py p p2 p3 : Pos} {kk : Nat} {j : Int} {B : Addr} {full : List Row} {i : Nat} {r : Row} {d : PyData} (k : Nat) (hx : m.lookup x = some (.obj B)) (hy : m.lookup y = some (.int (i : Int))) (eB : σ B = some (.list (dats (full.map Row.d)))) (hi : full[i]? = some r) (hl : full.length ≤ 100000) (hd : r.l[k]? = some d) (hk : k < 1000000) (hj : j = (k : Int)) (h : P (.dat d) σ) :
    Ev C n env m (.Subscript (.Subscript (.Name x px) (.Name y py) p) (.Constant (.int j) kk p2) p3) σ P := by
  subst hj
  exact E_sub (E_row hx hy eB hi hl (E_int (op_item_tup hk hd h)))

noncomputable def WhereOk (full : List Row) (kvs : List (Int × V)) : Prop := ∀ (p : Nat) (l : Int), full[p]? = some (.lab l) → kvLook kvs l = some (.int (p : Int))
theorem labs_mem {full : List Row} {p : Nat} {l : Int} (h : full[p]? = some (.lab l)) : l ∈ labs full := by
  have hlt := (List.getElem?_eq_some_iff.mp h).1
  rw [← List.take_append_drop p full, labs_app]
  obtain ⟨r, hr, hd⟩ := drop_head hlt
  rw [h] at hr; cases hr
  rw [hd]; simp [labs]
theorem labs_inj {full : List Row} (hn : (labs full).Nodup) {p q : Nat} {l : Int} (hp : full[p]? = some (.lab l)) (hq : full[q]? = some (.lab l)) : p = q := by
  have key : ∀ {p q : Nat}, full[p]? = some (.lab l) → full[q]? = some (.lab l) → ¬ p < q := by
    intro p q hp hq hlt
    have hq' : (full.drop (p + 1))[q - (p + 1)]? = some (.lab l) := by rw [List.getElem?_drop, show p + 1 + (q - (p + 1)) = q by omega]; exact hq
    have hplt := (List.getElem?_eq_some_iff.mp hp).1
    obtain ⟨r, hr, hd⟩ := drop_head hplt
    rw [hp] at hr; cases hr
    rw [← List.take_append_drop p full, labs_app, hd] at hn
    have := (List.nodup_append.mp hn).2.1
    exact (List.nodup_cons.mp this).1 (labs_mem hq')
  rcases Nat.lt_trichotomy p q with h | h | h
  · exact absurd h (key hp hq)
  · exact h
  · exact absurd h (key hq hp)
theorem kvPut_same {κ : Type} [DecidableEq κ] {l : List (κ × V)} {k : κ} {v : V} : kvLook (kvPut l k v) k = some v := by
  unfold kvPut
  split
  · rename_i hany
    unfold kvLook
    induction l with
    | nil => simp at hany
    | cons p r ih =>
      rw [List.map_cons, List.find?_cons]
      by_cases e : p.1 = k
      · simp [e]
      · simp only [e, if_false, decide_false]
        exact ih (by simpa [e] using hany)
  · rename_i hany
    unfold kvLook
    rw [List.find?_append]
    have : l.find? (fun p => decide (p.1 = k)) = none := by
      rw [List.find?_eq_none]
      intro p hp q
      exact hany (List.any_eq_true.mpr ⟨p, hp, q⟩)
    rw [this]; simp
theorem kvPut_other {κ : Type} [DecidableEq κ] {l : List (κ × V)} {k k' : κ} {v : V} (h : k' ≠ k) : kvLook (kvPut l k v) k' = kvLook l k' := by
  unfold kvPut
  split
  · unfold kvLook
    congr 1
    rename_i hany
    clear hany
    induction l with
    | nil => rfl
    | cons p r ih =>
      rw [List.map_cons, List.find?_cons, List.find?_cons]
      by_cases e : p.1 = k
      · have e2 : ¬ p.1 = k' := fun q => h (q.symm.trans e)
        have e3 : ¬ k = k' := fun q => h q.symm
        simp only [e, if_true, e3, decide_false]
        have : decide (k = k') = false := decide_eq_false e3
        simpa [e, e3] using ih
      · simp only [e, if_false]
        by_cases e2 : p.1 = k'
        · simp [e2]
        · simp only [e2, decide_false]; exact ih
  · unfold kvLook
    rw [List.find?_append]
    have : [(k, v)].find? (fun p => decide (p.1 = k')) = none := by
      simp only [List.find?_cons, List.find?_nil, decide_eq_false (show ¬ k = k' from fun q => h q.symm)]
    rw [this]; simp

theorem fn_label_places (T : Tx C) {B : Addr} {full : List Row} (eB : σ B = some (.list (dats (full.map Row.d)))) (hl : full.length ≤ 10000) (hn : (labs full).Nodup)
    (h : ∀ a kvs σ', Old σ σ' → σ a = none → σ' a = some (.dI kvs) → WhereOk full kvs → P (.obj a) σ') : Fn C 1 315 [.obj B] σ P := by
  walk_at "fn"
  intro env hs hcl
  refine X_assign (by walk_at "sto") ?_
  refine E_dI T.ok fun a ha => ?_
  refine X_forN (fun i σ' => OldX [a] σ σ' ∧ ∃ kvs, σ' a = some (.dI kvs) ∧ kvs.length ≤ i ∧ ∀ (p : Nat) (l : Int), p < i → full[p]? = some (.lab l) → kvLook kvs l = some (.int (p : Int))) [("where", .obj a), ("block", .obj B)] (by walk_at "sto") ?_
  walk_at "blt"
  refine A_cons ?_
  walk_at "blt"
  refine A_cons ?_
  walk_at "v"
  refine A_nil ?_
  have eB1 : upd σ a (.dI []) B = some (.list (dats (full.map Row.d))) := upd_old ha eB
  refine cv_len eB1 (by simp; omega) ?_
  refine A_nil ?_
  refine cv_range1 T.ok fun r hr => ?_
  refine ⟨r, full.length, rfl, by rw [upd_same]; simp, by omega, by walk_at "sub", ⟨((OldX.refl _ _).new ha).new hr, [], upd_old hr (upd_same _ _ _), by simp, by intro p l hp; omega⟩, ?_, ?_⟩
  · rintro i σ' hi ⟨o, kvs, ea, hlen, hw⟩
    refine Ex.gen fun PL ln => ?_
    have eB' := o B _ (by intro q; rw [List.mem_singleton.mp q] at eB; rw [ha] at eB; cases eB) eB
    obtain ⟨r, hr, _⟩ := drop_head hi
    have keep : (∀ n, r ≠ .lab n) → ∀ (p : Nat) (l : Int), p < i + 1 → full[p]? = some (.lab l) → kvLook kvs l = some (.int (p : Int)) := by
      intro hne p l hp e
      rcases Nat.lt_or_ge p i with q | q
      · exact hw p l q e
      · obtain rfl : p = i := by omega
        rw [hr] at e; cases e; exact absurd rfl (hne l)
    refine X_if ?_
    refine T_cmp ?_
    refine E_rowj 0 (by rfl) (by rfl) eB' hr (by omega) r.head (by decide) (by rfl) ?_
    walk_at "v"
    refine op_eq rfl rfl ⟨_, rfl, fun h1 => ?_, fun h1 => ?_⟩
    · have h1 := dt h1
      cases r with
      | lab l =>
        refine X_setitem ?_
        walk_at "v"
        refine E_var (by rfl) ?_
        refine E_rowj 1 (by rfl) (by rfl) eB' hr (by omega) (by rfl) (by decide) (by rfl) ?_
        refine put_dI ea (by omega) ?_
        refine X_nil (X_nil (ln _ _ _ ⟨by walk_at "sub", o.put (by simp), _, upd_same _ _ _, ?_, ?_⟩))
        · have := kvPut_len (l := kvs) (k := l) (v := .int (i : Int)); omega
        · intro p l' hp e
          rcases Nat.lt_or_ge p i with q | q
          · have : l' ≠ l := by
              rintro rfl
              have := labs_inj hn e hr
              omega
            rw [kvPut_other this]; exact hw p l' q e
          · obtain rfl : p = i := by omega
            rw [hr] at e; cases e; exact kvPut_same
      | _ => exact absurd h1 (sne (by rfl))
    · have h1 := df h1
      refine X_nil (X_nil (ln _ _ _ ⟨by walk_at "sub", o, kvs, ea, by omega, keep ?_⟩))
      rintro n rfl
      exact h1 rfl
  · rintro σ' ⟨o, kvs, ea, hlen, hw⟩
    refine X_ret ?_
    walk_at "v"
    refine h a kvs σ' (o.old (by intro b hb; rw [List.mem_singleton.mp hb]; exact ha)) ha ea fun p l e => ?_
    exact hw p l (List.getElem?_eq_some_iff.mp e).1 e

theorem fn_switch_target (T : Tx C) {v c l s : Int} {y : Ky} (h : P (.int (pickL y.kd v c l s)) σ) : Fn C 1 322 [.tup (Row.term v c l s).l, .dat y.d] σ P := by
  walk_at "fn"
  intro env hs hcl
  refine X_assign (by walk_at "sto") ?_
  cases y with
  | var =>
    refine E_ti 0 (by rfl) (by rfl) (by decide) (by rfl) ?_
    refine X_ifF (T_str (by rfl) (by decide +kernel) ⟨by decide, X_nil ?_⟩)
    refine X_ifF (T_str (by rfl) (by decide +kernel) ⟨by decide, X_nil ?_⟩)
    refine X_ifF (T_str (by rfl) (by decide +kernel) ⟨by decide, X_nil ?_⟩)
    refine X_ret ?_
    exact E_ti 1 (by rfl) (by rfl) (by decide) (by rfl) h
  | list =>
    refine E_ti 0 (by rfl) (by rfl) (by decide) (by rfl) ?_
    refine X_ifF (T_str (by rfl) (by decide +kernel) ⟨by decide, X_nil ?_⟩)
    refine X_ifT (T_str (by rfl) (by decide +kernel) ⟨by decide, ?_⟩)
    refine X_ret ?_
    exact E_ti 3 (by rfl) (by rfl) (by decide) (by rfl) h
  | struct n =>
    refine E_ti 0 (by rfl) (by rfl) (by decide) (by rfl) ?_
    refine X_ifF (T_str (by rfl) (by decide +kernel) ⟨by decide, X_nil ?_⟩)
    refine X_ifF (T_str (by rfl) (by decide +kernel) ⟨by decide, X_nil ?_⟩)
    refine X_ifT (T_str (by rfl) (by decide +kernel) ⟨by decide, ?_⟩)
    refine X_ret ?_
    exact E_ti 4 (by rfl) (by rfl) (by decide) (by rfl) h
  | const t n =>
    refine E_ti 0 (by rfl) (by rfl) (by decide) (by rfl) ?_
    refine X_ifT (T_str (by rfl) (by decide +kernel) ⟨by decide, ?_⟩)
    refine X_ret ?_
    exact E_ti 2 (by rfl) (by rfl) (by decide) (by rfl) h

theorem fn_table_con (T : Tx C) {t : List (Int × Int × Int)} {d a c : Int} (h : P (.int (lookC a c t d)) σ) : Fn C 1 329 [.tup (Row.con t d).l, .dat (Ky.const a c).d] σ P := by
  walk_at "fn"
  intro env hs hcl
  refine X_forI (fun i σ' => σ' = σ ∧ lookC a c t d = lookC a c (t.drop i) d) [("ins", .tup (Row.con t d).l), ("key", .dat (Ky.const a c).d)] (by walk_at "sto") ?_
  refine E_ti 1 (by rfl) (by rfl) (by decide) (by rfl) ?_
  refine ⟨_, _, src_tup, trivial, by walk_at "sub", ⟨rfl, rfl⟩, ?_, ?_⟩
  · rintro i v σ' hi ⟨rfl, hl⟩ _
    refine Ex.gen fun PL ln => ?_
    have hlt := (List.getElem?_eq_some_iff.mp hi).1
    simp only [List.length_map] at hlt
    obtain ⟨e, he, hd⟩ := drop_head hlt
    rw [List.getElem?_map, List.getElem?_map, he] at hi
    cases hi
    rw [hd, lookC] at hl
    refine X_if ?_
    refine T_cmp ?_
    refine E_ti 0 (by rfl) (by rfl) (by decide) (by rfl) ?_
    refine E_ti 1 (by rfl) (by rfl) (by decide) (by rfl) ?_
    refine op_eq rfl rfl ⟨_, rfl, fun h1 => ?_, fun h1 => ?_⟩
    · have h1 := dt h1
      have h2 : e.1 = a ∧ e.2.1 = c := by
        injection h1 with h1; injection h1 with h1 h2; injection h2 with h2; injection h1 with h1; injection h2 with h2; exact ⟨h1, h2⟩
      rw [if_pos h2] at hl
      refine X_ret ?_
      refine E_ti 1 (by rfl) (by rfl) (by decide) (by rfl) ?_
      refine ln _ _ _ ?_
      show P (.int e.2.2) σ'
      rw [← hl]; exact h
    · have h1 := df h1
      have h2 : ¬ (e.1 = a ∧ e.2.1 = c) := by rintro ⟨q1, q2⟩; exact h1 (by rw [q1, q2])
      rw [if_neg h2] at hl
      exact X_nil (X_nil (ln _ _ _ ⟨trivial, by walk_at "sub", rfl, hl⟩))
  · rintro σ' ⟨rfl, hl⟩ _
    simp only [List.length_map, List.drop_length, lookC] at hl
    refine X_ret ?_
    refine E_ti 2 (by rfl) (by rfl) (by decide) (by rfl) ?_
    show P (.int d) σ'
    rw [← hl]; exact h
theorem fn_table_str (T : Tx C) {t : List (Int × Int)} {d a : Int} (h : P (.int (lookS a t d)) σ) : Fn C 1 329 [.tup (Row.str t d).l, .dat (Ky.struct a).d] σ P := by
  walk_at "fn"
  intro env hs hcl
  refine X_forI (fun i σ' => σ' = σ ∧ lookS a t d = lookS a (t.drop i) d) [("ins", .tup (Row.str t d).l), ("key", .dat (Ky.struct a).d)] (by walk_at "sto") ?_
  refine E_ti 1 (by rfl) (by rfl) (by decide) (by rfl) ?_
  refine ⟨_, _, src_tup, trivial, by walk_at "sub", ⟨rfl, rfl⟩, ?_, ?_⟩
  · rintro i v σ' hi ⟨rfl, hl⟩ _
    refine Ex.gen fun PL ln => ?_
    have hlt := (List.getElem?_eq_some_iff.mp hi).1
    simp only [List.length_map] at hlt
    obtain ⟨e, he, hd⟩ := drop_head hlt
    rw [List.getElem?_map, List.getElem?_map, he] at hi
    cases hi
    rw [hd, lookS] at hl
    refine X_if ?_
    refine T_cmp ?_
    refine E_ti 0 (by rfl) (by rfl) (by decide) (by rfl) ?_
    refine E_ti 1 (by rfl) (by rfl) (by decide) (by rfl) ?_
    refine op_eq rfl rfl ⟨_, rfl, fun h1 => ?_, fun h1 => ?_⟩
    · have h1 := dt h1
      have h2 : e.1 = a := by injection h1
      rw [if_pos h2] at hl
      refine X_ret ?_
      refine E_ti 1 (by rfl) (by rfl) (by decide) (by rfl) ?_
      refine ln _ _ _ ?_
      show P (.int e.2) σ'
      rw [← hl]; exact h
    · have h1 := df h1
      have h2 : ¬ e.1 = a := fun q => h1 (by rw [q])
      rw [if_neg h2] at hl
      exact X_nil (X_nil (ln _ _ _ ⟨trivial, by walk_at "sub", rfl, hl⟩))
  · rintro σ' ⟨rfl, hl⟩ _
    simp only [List.length_map, List.drop_length, lookS] at hl
    refine X_ret ?_
    refine E_ti 2 (by rfl) (by rfl) (by decide) (by rfl) ?_
    show P (.int d) σ'
    rw [← hl]; exact h
end
section
variable {cnt : Nat} {y : Ky} {ks : List PyData} {b : Nat} {rest : List Row}
theorem jump_no : ∃ b, Jump noX (Safe noX cnt ks y.kd) b rest (-1) := ⟨1, by decide, .inl rfl⟩
theorem does_labC {n : Int} (h : n < cnt) : Does cnt y ks (.lab n) rest (-1) false [n] := ⟨by rw [run, if_pos h]; simp, (fun e => by cases e), jump_no⟩
theorem does_labN {n : Int} (hs : Safe noX cnt ks y.kd b (.lab n :: rest)) (h : ¬ n < cnt) : Does cnt y ks (.lab n) rest (-1) true [] := by
  refine ⟨by rw [run, if_neg h]; simp, fun _ => ?_, jump_no⟩
  rcases hs.elim.2 with q | q
  · exact absurd q.2 h
  · exact ⟨b, q.2⟩
theorem does_tri {l a : Int} (hs : Safe noX cnt ks y.kd b (.tri l a :: rest)) : Does cnt y ks (.tri l a) rest l true [] := by
  obtain ⟨b1, b2, _, h1, h2⟩ := hs.elim
  exact ⟨by rw [run]; simp, fun _ => ⟨b2, h2⟩, ⟨b1, h1⟩⟩
theorem does_retry {l : Int} (hs : Safe noX cnt ks y.kd b (.retry l :: rest)) : Does cnt y ks (.retry l) rest l true [] := by
  obtain ⟨b1, b2, _, h1, h2⟩ := hs.elim
  exact ⟨by rw [run]; simp, fun _ => ⟨b2, h2⟩, ⟨b1, h1⟩⟩
theorem does_trust {l : Int} (hs : Safe noX cnt ks y.kd b (.trust l :: rest)) : Does cnt y ks (.trust l) rest l false [] := ⟨by rw [run]; simp, (fun e => by cases e), ⟨b, hs.elim⟩⟩
theorem does_term {v c l s : Int} (hs : Safe noX cnt ks y.kd b (.term v c l s :: rest)) : Does cnt y ks (.term v c l s) rest (pickL y.kd v c l s) false [] := ⟨by rw [run]; simp, (fun e => by cases e), ⟨b, hs.elim⟩⟩
theorem does_con {t : List (Int × Int × Int)} {d : Int} (hs : Safe noX cnt ks y.kd b (.con t d :: rest)) : Does cnt y ks (.con t d) rest (tgC y t d) false [] := ⟨by rw [run]; simp, (fun e => by cases e), ⟨b, tgC_jump ⟨hs.elim.2.1, hs.elim.2.2⟩⟩⟩
theorem does_str {t : List (Int × Int)} {d : Int} (hs : Safe noX cnt ks y.kd b (.str t d :: rest)) : Does cnt y ks (.str t d) rest (tgS y t d) false [] := ⟨by rw [run]; simp, (fun e => by cases e), ⟨b, tgS_jump ⟨hs.elim.2.1, hs.elim.2.2⟩⟩⟩
end

noncomputable def tried (cnt : Nat) (y : Ky) (full : List Row) : List Int := if cnt = 0 then [] else if cnt = 1 then [0] else run cnt y full
noncomputable abbrev nV (l : List Nat) : List V := l.map fun i : Nat => V.int (i : Int)

section
variable {C : Cx} {n : Nat} {env : Env} {m : Vars} {σ : AH} {P : V → AH → Prop} {PB : Bool → AH → Prop}

theorem W.sub {α β : Type} {rel : Heap → α → β → Prop} {t : Sem β} {P : α → AH → Prop} {m' : Vars} (hs : Sub m' m) (h : W C n (FrR C env m') rel t σ P) : W C n (FrR C env m) rel t σ P := fun A s R S F E Q hQ => h A s R S (F.sub hs) E Q hQ

/-- the loop's state -/
structure TSt (F Q : Addr) (cnt : Nat) (y : Ky) (ks : List PyData) (full : List Row) (pend : List Nat) (acc : List Int) (σ0 σ : AH) : Prop where
  old : OldX [F, Q] σ0 σ
  f : σ F = some (.list (iV acc))
  q : σ Q = some (.list (nV pend))
  inv : PInv cnt y ks full pend acc

theorem fn_tried (T : Tx C) {B : Addr} {full : List Row} {cnt b : Nat} {y : Ky} {ks : List PyData} (eB : σ B = some (.list (dats (full.map Row.d)))) (hl : full.length ≤ 10000) (hn : (labs full).Nodup) (hs : 2 ≤ cnt → Safe noX cnt ks y.kd b full) (hb : b ≤ 1000)
    (h : ∀ a σ', Old σ σ' → σ a = none → σ' a = some (.list (iV (tried cnt y full))) → P (.obj a) σ') : Fn C 3 336 [.obj B, .int (cnt : Int), .dat y.d] σ P := by
  walk_at "fn"
  intro env hs' hcl
  refine X_if ?_
  refine T_cmp ?_
  walk_at "a"
  refine op_eq rfl rfl ⟨_, rfl, fun h1 => ?_, fun h1 => ?_⟩
  · have h1 := dt h1
    have hc : cnt = 0 := by injection h1 with h1; omega
    refine X_ret ?_
    refine E_list T.ok ?_
    refine A_nil ⟨by simp, fun a ha => ?_⟩
    refine h a _ ((OldX.refl _ _).new ha) ha ?_
    rw [upd_same]; simp [tried, hc]
  refine X_nil ?_
  refine X_if ?_
  refine T_cmp ?_
  walk_at "a"
  have hc0 : cnt ≠ 0 := by rintro rfl; exact df h1 rfl
  refine op_eq rfl rfl ⟨_, rfl, fun h2 => ?_, fun h2 => ?_⟩
  · have h2 := dt h2
    have hc : cnt = 1 := by injection h2 with h2; omega
    refine X_ret ?_
    refine E_list T.ok ?_
    walk_at "a"
    refine ⟨by simp, fun a ha => ?_⟩
    refine h a _ ((OldX.refl _ _).new ha) ha ?_
    rw [upd_same]; simp [tried, hc]
  refine X_nil ?_
  have hc1 : cnt ≠ 1 := by rintro rfl; exact df h2 rfl
  have hsafe := hs (by omega)
  have htr : tried cnt y full = run cnt y full := by rw [tried, if_neg hc0, if_neg hc1]
  obtain ⟨_, hlen⟩ := run_range rfl hsafe hn
  refine X_assign (by walk_at "sto") ?_
  walk_at "call"
  walk_at "a"
  refine (fn_label_places T eB (by omega) hn fun W kvs σ1 o1 hW eW hw => ?_).up (by decide)
  refine X_assign (by walk_at "sto") ?_
  refine E_list T.ok ?_
  refine A_nil ⟨by simp, fun F hF => ?_⟩
  refine X_assign (by walk_at "sto") ?_
  refine E_list T.ok ?_
  walk_at "a"
  refine ⟨by simp, fun Q hQ => ?_⟩
  have nFQ : F ≠ Q := by rintro rfl; rw [upd_same] at hQ; cases hQ
  have oQ1 : σ1 Q = none := by
    cases e : σ1 Q with
    | none => rfl
    | some z => rw [upd_old hF e] at hQ; cases hQ
  have oF : σ F = none := o1.none (by simp) hF
  have oQ : σ Q = none := o1.none (by simp) oQ1
  have o2 : OldX [F, Q] σ1 (upd (upd σ1 F (.list [])) Q (.list [.int 0])) := ((OldX.refl _ _).put (by simp)).put (by simp)
  have i0 : TSt F Q cnt y ks full [0] [] σ1 (upd (upd σ1 F (.list [])) Q (.list [.int 0])) := by
    refine ⟨o2, by rw [upd_other nFQ]; exact upd_same _ _ _, by rw [upd_same]; rfl, ⟨?_, ?_, ?_⟩⟩
    · intro p hp; obtain rfl := List.mem_singleton.mp hp; exact ⟨b, hsafe⟩
    · simp [runs]
    · intro i v e
      have : i = 0 := by have := (List.getElem?_eq_some_iff.mp e).1; simpa using this
      omega
  generalize upd (upd σ1 F (.list [])) Q (.list [.int 0]) = σ2 at *
  have notX : ∀ z : Addr, (∃ x, σ1 z = some x) → z ∉ [F, Q] := by
    rintro z ⟨x, hx⟩ q
    simp only [List.mem_cons, List.not_mem_nil, or_false] at q
    rcases q with rfl | rfl
    · rw [hF] at hx; cases hx
    · rw [oQ1] at hx; cases hx
  have eB1 : σ1 B = some (.list (dats (full.map Row.d))) := o1 B _ (by simp) eB
  refine X_while (ι := List Nat × List Int) (fun i m' σ' => Sub [("pending", .obj Q), ("found", .obj F), ("where", .obj W), ("block", .obj B), ("count", .int (cnt : Int)), ("key", .dat y.d)] m' ∧ TSt F Q cnt y ks full i.1 i.2 σ1 σ') (fun i => wsum full.length i.1) ([0], []) ⟨by walk_at "sub", i0⟩ ?_
  rintro ⟨pend, acc⟩ m' σ' ⟨hsub, S⟩
  have hplen := S.inv.len
  have halen := S.inv.accLen
  dsimp only at S hplen halen
  refine Mine.W.sub hsub ?_
  refine T_cmp ?_
  walk_at "blt"
  walk_at "a"
  refine cv_len S.q (by simp; omega) ?_
  walk_at "v"
  refine op_gt ⟨_, rfl, fun h3 => ?_, fun h3 => ?_⟩
  · have h3 := dt h3
    rw [List.length_map] at h3
    obtain ⟨pend0, p, rfl⟩ : ∃ pend0 p, pend = pend0 ++ [p] := by
      have hne : pend ≠ [] := by rintro rfl; simp at h3
      exact ⟨pend.dropLast, pend.getLast hne, (List.dropLast_concat_getLast hne).symm⟩
    refine Ex1.sub hsub ?_
    refine X_assign (by walk_at "sto") ?_
    refine E_pop T.ok ?_
    walk_at "v"
    refine ⟨Q, nV pend0, .int (p : Int), rfl, by rw [S.q]; simp [nV], ?_, ?_⟩
    · simp only [List.length_append, List.length_map, List.length_singleton] at *; omega
    have hp : p < full.length := S.inv.lt p (by simp)
    obtain ⟨bp, hsp⟩ := S.inv.safe p (by simp)
    obtain ⟨r, hr, hdrop⟩ := drop_head hp
    rw [hdrop] at hsp
    have eBs : σ' B = some (.list (dats (full.map Row.d))) := S.old B _ (notX B ⟨_, eB1⟩) eB1
    have nBQ : B ≠ Q := by rintro rfl; rw [oQ1] at eB1; cases eB1
    have eB3 : upd σ' Q (.list (nV pend0)) B = some (.list (dats (full.map Row.d))) := by rw [upd_other nBQ]; exact eBs
    have eF3 : upd σ' Q (.list (nV pend0)) F = some (.list (iV acc)) := by rw [upd_other nFQ]; exact S.f
    have eQ3 : upd σ' Q (.list (nV pend0)) Q = some (.list (nV pend0)) := upd_same _ _ _
    have o3 : OldX [F, Q] σ1 (upd σ' Q (.list (nV pend0))) := S.old.put (by simp)
    have hinv := S.inv
    clear S eBs
    generalize upd σ' Q (.list (nV pend0)) = σ3 at *
    refine X_assign (by walk_at "sto") ?_
    refine E_row (by rfl) (by rfl) eB3 hr (by omega) ?_
    refine X_assign (by walk_at "sto") ?_
    refine E_ti 0 (by rfl) r.head (by decide) (by rfl) ?_
    refine X_assign (by walk_at "sto") ?_
    walk_at "v"
    refine X_ifJ (ι := Int × Bool × List Int) (fun i σ4 => OldX [F, Q] σ1 σ4 ∧ σ4 F = some (.list (iV (acc ++ i.2.2))) ∧ σ4 Q = some (.list (nV (pend0 ++ (if i.2.1 then [p + 1] else [])))) ∧ Does cnt y ks r (full.drop (p + 1)) i.1 i.2.1 i.2.2)
      (fun i => [("target", .int i.1), ("pending", .obj Q), ("found", .obj F), ("where", .obj W), ("block", .obj B), ("count", .int (cnt : Int)), ("key", .dat y.d)]) ?_ ?_
    · refine fun PJ jn jo => ?_
      have hpl : pend0.length ≤ 10010 := by simp only [List.length_append, List.length_singleton] at hplen; omega
      have no : ∀ {s t : Str} {A : Prop}, (s == t) = false → (s == t) = true → A := fun h1 h2 => by rw [h1] at h2; cases h2
      have yes : ∀ {s t : Str} {A : Prop}, (s == t) = true → (s == t) = false → A := fun h1 h2 => by rw [h1] at h2; cases h2
      have nV1 : nV pend0 ++ [V.int ((p : Int) + 1)] = nV (pend0 ++ (if true then [p + 1] else [])) := by simp [nV]
      have nV0 : nV pend0 = nV (pend0 ++ (if false then [p + 1] else [])) := by simp
      have a0 : iV acc = iV (acc ++ []) := by simp
      have e3F : σ3 F = some (.list (iV (acc ++ []))) := by rw [eF3, a0]
      have upQF : ∀ x, upd σ3 Q x F = some (.list (iV (acc ++ []))) := fun x => by rw [upd_other nFQ]; exact e3F
      have upFQ : ∀ x, upd σ3 F x Q = some (.list (nV (pend0 ++ (if false then [p + 1] else [])))) := fun x => by rw [upd_other nFQ.symm, ← nV0]; exact eQ3
      cases r with
      | lab l =>
        refine T_str (by rfl) (by decide +kernel) ⟨fun _ => ?_, fun e => yes (by rfl) e⟩
        refine X_if ?_
        refine T_cmp ?_
        refine E_ti 1 (by rfl) (by rfl) (by decide) (by rfl) ?_
        walk_at "v"
        refine op_lt ⟨_, rfl, fun h4 => ?_, fun h4 => ?_⟩
        · refine X_expr ?_
          refine E_append T.ok ?_
          walk_at "v"
          refine ⟨F, rfl, ⟨_, eF3⟩, ?_⟩
          refine E_ti 1 (by rfl) (by rfl) (by decide) (by rfl) ?_
          refine ⟨_, eF3, by simp; omega, rfl, X_nil (X_nil (jn (-1, false, [l]) _ _ (by walk_at "sub") ⟨o3.put (by simp), ?_, upFQ _, does_labC (dt h4)⟩))⟩
          rw [upd_same]; simp [iV]
        · refine X_expr ?_
          refine E_append T.ok ?_
          walk_at "v"
          refine ⟨Q, rfl, ⟨_, eQ3⟩, ?_⟩
          walk_at "a"
          refine op_add ?_
          refine ⟨_, eQ3, by simp; omega, rfl, X_nil (X_nil (jn (-1, true, []) _ _ (by walk_at "sub") ⟨o3.put (by simp), upQF _, ?_, does_labN hsp (df h4)⟩))⟩
          rw [upd_same, nV1]
      | tri l a =>
        refine T_str (by rfl) (by decide +kernel) ⟨fun e => no (by rfl) e, fun _ => ?_⟩
        refine X_ifT ?_
        refine T_or ?_
        refine T_str (by rfl) (by decide +kernel) ⟨fun _ => ⟨rfl, ?_⟩, fun e => yes (by rfl) e⟩
        refine X_expr ?_
        refine E_append T.ok ?_
        walk_at "v"
        refine ⟨Q, rfl, ⟨_, eQ3⟩, ?_⟩
        walk_at "a"
        refine op_add ?_
        refine ⟨_, eQ3, by simp; omega, rfl, ?_⟩
        refine X_assign (by walk_at "sto") ?_
        refine E_ti 1 (by rfl) (by rfl) (by decide) (by rfl) ?_
        refine X_nil (X_nil (jn (l, true, []) _ _ (by walk_at "sub") ⟨o3.put (by simp), upQF _, ?_, does_tri hsp⟩))
        rw [upd_same, nV1]
      | retry l =>
        refine T_str (by rfl) (by decide +kernel) ⟨fun e => no (by rfl) e, fun _ => ?_⟩
        refine X_ifT ?_
        refine T_or ?_
        refine T_str (by rfl) (by decide +kernel) ⟨fun e => no (by rfl) e, fun _ => ?_⟩
        refine T_str (by rfl) (by decide +kernel) ⟨by rfl, ?_⟩
        refine X_expr ?_
        refine E_append T.ok ?_
        walk_at "v"
        refine ⟨Q, rfl, ⟨_, eQ3⟩, ?_⟩
        walk_at "a"
        refine op_add ?_
        refine ⟨_, eQ3, by simp; omega, rfl, ?_⟩
        refine X_assign (by walk_at "sto") ?_
        refine E_ti 1 (by rfl) (by rfl) (by decide) (by rfl) ?_
        refine X_nil (X_nil (jn (l, true, []) _ _ (by walk_at "sub") ⟨o3.put (by simp), upQF _, ?_, does_retry hsp⟩))
        rw [upd_same, nV1]
      | trust l =>
        refine T_str (by rfl) (by decide +kernel) ⟨fun e => no (by rfl) e, fun _ => ?_⟩
        refine X_ifF ?_
        refine T_or ?_
        refine T_str (by rfl) (by decide +kernel) ⟨fun e => no (by rfl) e, fun _ => ?_⟩
        refine T_str (by rfl) (by decide +kernel) ⟨by rfl, ?_⟩
        refine X_ifT ?_
        refine T_str (by rfl) (by decide +kernel) ⟨by rfl, ?_⟩
        refine X_assign (by walk_at "sto") ?_
        refine E_ti 1 (by rfl) (by rfl) (by decide) (by rfl) ?_
        exact X_nil (X_nil (X_nil (jn (l, false, []) _ _ (by walk_at "sub") ⟨o3, e3F, by rw [← nV0]; exact eQ3, does_trust hsp⟩)))
      | term v c l s =>
        refine T_str (by rfl) (by decide +kernel) ⟨fun e => no (by rfl) e, fun _ => ?_⟩
        refine X_ifF ?_
        refine T_or ?_
        refine T_str (by rfl) (by decide +kernel) ⟨fun e => no (by rfl) e, fun _ => ?_⟩
        refine T_str (by rfl) (by decide +kernel) ⟨by rfl, ?_⟩
        refine X_ifF ?_
        refine T_str (by rfl) (by decide +kernel) ⟨by rfl, ?_⟩
        refine X_ifT ?_
        refine T_str (by rfl) (by decide +kernel) ⟨by rfl, ?_⟩
        refine X_assign (by walk_at "sto") ?_
        walk_at "call"
        walk_at "a"
        refine (fn_switch_target T ?_).up (by decide)
        exact X_nil (X_nil (X_nil (X_nil (jn (pickL y.kd v c l s, false, []) _ _ (by walk_at "sub") ⟨o3, e3F, by rw [← nV0]; exact eQ3, does_term hsp⟩))))
      | con t d =>
        refine T_str (by rfl) (by decide +kernel) ⟨fun e => no (by rfl) e, fun _ => ?_⟩
        refine X_ifF ?_
        refine T_or ?_
        refine T_str (by rfl) (by decide +kernel) ⟨fun e => no (by rfl) e, fun _ => ?_⟩
        refine T_str (by rfl) (by decide +kernel) ⟨by rfl, ?_⟩
        refine X_ifF ?_
        refine T_str (by rfl) (by decide +kernel) ⟨by rfl, ?_⟩
        refine X_ifF ?_
        refine T_str (by rfl) (by decide +kernel) ⟨by rfl, ?_⟩
        refine X_ifT ?_
        refine T_or ?_
        refine T_str (by rfl) (by decide +kernel) ⟨fun _ => ⟨rfl, ?_⟩, fun e => yes (by rfl) e⟩
        refine X_assign (by walk_at "sto") ?_
        walk_at "call"
        walk_at "a"
        have hk := hsp.elim.1
        have hd := does_con hsp
        cases y with
        | const a c =>
          refine (fn_table_con T ?_).up (by decide)
          exact X_nil (X_nil (X_nil (X_nil (X_nil (jn (tgC (.const a c) t d, false, []) _ _ (by walk_at "sub") ⟨o3, e3F, by rw [← nV0]; exact eQ3, hd⟩)))))
        | _ => cases hk
      | str t d =>
        refine T_str (by rfl) (by decide +kernel) ⟨fun e => no (by rfl) e, fun _ => ?_⟩
        refine X_ifF ?_
        refine T_or ?_
        refine T_str (by rfl) (by decide +kernel) ⟨fun e => no (by rfl) e, fun _ => ?_⟩
        refine T_str (by rfl) (by decide +kernel) ⟨by rfl, ?_⟩
        refine X_ifF ?_
        refine T_str (by rfl) (by decide +kernel) ⟨by rfl, ?_⟩
        refine X_ifF ?_
        refine T_str (by rfl) (by decide +kernel) ⟨by rfl, ?_⟩
        refine X_ifT ?_
        refine T_or ?_
        refine T_str (by rfl) (by decide +kernel) ⟨fun e => no (by rfl) e, fun _ => ?_⟩
        refine T_str (by rfl) (by decide +kernel) ⟨by rfl, ?_⟩
        refine X_assign (by walk_at "sto") ?_
        walk_at "call"
        walk_at "a"
        have hk := hsp.elim.1
        have hd := does_str hsp
        cases y with
        | struct a =>
          refine (fn_table_str T ?_).up (by decide)
          exact X_nil (X_nil (X_nil (X_nil (X_nil (jn (tgS (.struct a) t d, false, []) _ _ (by walk_at "sub") ⟨o3, e3F, by rw [← nV0]; exact eQ3, hd⟩)))))
        | _ => cases hk
      | exec n => exact hsp.elim.elim
      | fail => exact hsp.elim.elim
    · rintro ⟨tg, fall, emit⟩ σ4 ⟨o4, eF4, eQ4, hd⟩
      dsimp only at eF4 eQ4 hd
      have hst := hinv.step hn hr hd
      refine X_if ?_
      refine T_cmp ?_
      walk_at "a"
      refine op_ne rfl rfl ⟨_, rfl, fun h5 => ?_, fun h5 => ?_⟩
      · have h5 := ndt h5
        have htg : tg ≠ -1 := fun q => h5 (by rw [q])
        obtain ⟨q, hq, hI, hw'⟩ := hst.2 htg
        have hIl := hI.len
        refine X_expr ?_
        refine E_append T.ok ?_
        walk_at "v"
        refine ⟨Q, rfl, ⟨_, eQ4⟩, ?_⟩
        refine E_sub ?_
        walk_at "v"
        walk_at "v"
        have eW4 : σ4 W = some (.dI kvs) := o4 W _ (notX W ⟨_, eW⟩) eW
        refine op_item_dI eW4 (hw q tg hq) ?_
        refine ⟨_, eQ4, by simp at hIl ⊢; omega, rfl, X_nil (X_nil ⟨(pend0 ++ (if fall then [p + 1] else []) ++ [q], acc ++ emit), hw', by walk_at "sub", o4.put (by simp), ?_, ?_, hI⟩)⟩
        · rw [upd_other nFQ]; exact eF4
        · rw [upd_same]; simp [nV]
      · have h5 := ndf h5
        have htg : tg = -1 := by injection h5
        obtain ⟨hI, hw'⟩ := hst.1 htg
        exact X_nil (X_nil ⟨(pend0 ++ (if fall then [p + 1] else []), acc ++ emit), hw', by walk_at "sub", o4, eF4, eQ4, hI⟩)
  · have h3 := df h3
    rw [List.length_map] at h3
    have hne : pend = [] := by
      cases pend with
      | nil => rfl
      | cons a r => simp at h3
    subst hne
    refine Ex1.sub hsub ?_
    refine X_ret ?_
    walk_at "v"
    have hall := S.inv.all
    simp only [runs, List.reverse_nil, List.map_nil, List.flatten_nil, List.append_nil] at hall
    refine h F σ' ?_ oF ?_
    · exact o1.then S.old (by intro z hz; simp only [List.mem_cons, List.not_mem_nil, or_false] at hz; rcases hz with rfl | rfl <;> assumption)
    · rw [S.f, htr, hall]
end
section
variable {C : Cx} {n : Nat} {env : Env} {m : Vars} {σ : AH} {P : V → AH → Prop} {PB : Bool → AH → Prop} {sc : Scope}

theorem swap_yes {elt : Expr} {gens : List Comprehension} {scope : Scope} {pos py : Pos} {t : Str} {line : Nat} (hs : env.scope = sc) (hk : sc.kind = .function) (ht : sc.names.lookup t = some .local) (hl : (py.line == pos.line) = true)
    (hn : (scope.names.any fun x => x.1 == t && (x.2 == .local || x.2 == .cell)) = false) : swapsWith (.ListComp elt gens scope pos) (some (.Name t py)) line env = pure true := by
  have e1 : env.blockKind = .function := by unfold Env.blockKind; rw [hs, hk]; rfl
  have e2 : env.kindOf t = some .local := kind_of hs ht
  show (pure (env.blockKind == .function && env.kindOf t == some .local && py.line == pos.line && !(scope.names.any fun x => x.1 == t && (x.2 == .local || x.2 == .cell))) : Sem Bool) = _
  rw [e1, e2, hl, hn]; rfl

theorem X_ac (T : Tx C) {rest : List Stmt} {P : Out → Vars → AH → Prop} {elt iter : Expr} {x y : Str} {px py pos spos : Pos} {ifs : List Expr} {scope : Scope} (hsc : env.scope = sc) (hcell : ∀ z, sc.names.lookup z = some .cell → (env.cells.lookup z).isSome = true) (hfree : ∀ y ∈ scope.names, y.2 = .free → sc.names.lookup y.1 = some .cell)
    (hkind : scope.kind = .function) (hnames : ∀ y ∈ scope.names, y.2 = .local → scope.names.lookup y.1 = some .local)
    (hk : sc.kind = .function) (ht : sc.names.lookup y = some .local) (hnd : (y == ("__debug__" : Str)) = false) (hl : (py.line == pos.line) = true) (hn : (scope.names.any fun x => x.1 == y && (x.2 == .local || x.2 == .cell)) = false)
    (h : CompSay C n env m elt iter x ifs scope sc (relabelS scope sc) σ (fun D σ' => Ex C n env ((y, .obj D) :: m) rest σ' P))
    (hs : isSet iter = false := by rfl) : Ex C n env m (.Assign [.Name y py] (.ListComp elt [⟨.Name x px, iter, ifs, 0⟩] scope pos) spos :: rest) σ P :=
  X_assign_comp T.ok hsc hcell hfree hkind hnames (kind_of hsc ht) hnd (swap_yes hsc hk ht hl hn) h hs
theorem E_cp (T : Tx C) {elt iter : Expr} {x : Str} {px pos : Pos} {ifs : List Expr} {scope : Scope} (hsc : env.scope = sc) (hcell : ∀ z, sc.names.lookup z = some .cell → (env.cells.lookup z).isSome = true) (hfree : ∀ y ∈ scope.names, y.2 = .free → sc.names.lookup y.1 = some .cell)
    (hkind : scope.kind = .function) (hnames : ∀ y ∈ scope.names, y.2 = .local → scope.names.lookup y.1 = some .local)
    (h : CompSay C n env m elt iter x ifs scope sc (relabelS scope sc) σ (fun D σ' => P (.obj D) σ'))
    (hs : isSet iter = false := by rfl) : Ev C n env m (.ListComp elt [⟨.Name x px, iter, ifs, 0⟩] scope pos) σ P := E_comp T.ok hsc hcell hfree hkind hnames h hs
noncomputable def kyOf : PyData → Option Ky
  | .tuple [.str s] => if s == ("var" : Str) then some .var else some .list
  | .tuple [.str _, .int n] => some (.struct n)
  | .tuple [.str _, .tuple [.int t, .int n]] => some (.const t n)
  | _ => none
theorem kyOf_d (y : Ky) : kyOf y.d = some y := by cases y <;> rfl
theorem Ky.inj {y y' : Ky} (h : y.d = y'.d) : y = y' := by
  have := kyOf_d y; rw [h, kyOf_d] at this; exact (Option.some.inj this).symm

open Classical in
noncomputable def filt (ks : List PyData) (d : PyData) (l : List Int) : List Int := l.filter fun x => decide (MatAt ks d x.toNat)
theorem filt_snoc_t {ks : List PyData} {d : PyData} {l : List Int} {x : Int} (h : MatAt ks d x.toNat) : filt ks d (l ++ [x]) = filt ks d l ++ [x] := by
  unfold filt; rw [List.filter_append]; simp [h]
theorem filt_snoc_f {ks : List PyData} {d : PyData} {l : List Int} {x : Int} (h : ¬ MatAt ks d x.toNat) : filt ks d (l ++ [x]) = filt ks d l := by
  unfold filt; rw [List.filter_append]; simp [h]
theorem filt_len {ks : List PyData} {d : PyData} {l : List Int} : (filt ks d l).length ≤ l.length := List.length_filter_le _ _
theorem tried_range {cnt b : Nat} {y : Ky} {ks : List PyData} {full : List Row} (hn : (labs full).Nodup) (hs : 2 ≤ cnt → Safe noX cnt ks y.kd b full) (hb : b ≤ 1000) : (∀ x ∈ tried cnt y full, 0 ≤ x ∧ x < (cnt : Int)) ∧ (tried cnt y full).length ≤ 1000 := by
  unfold tried
  split
  · exact ⟨fun x hx => (by cases hx), by simp⟩
  · split
    · rename_i h1; subst h1
      exact ⟨fun x hx => by obtain rfl := List.mem_singleton.mp hx; decide, by simp⟩
    · have := run_range rfl (hs (by omega)) hn
      exact ⟨this.1, by have := this.2; omega⟩
theorem ints_nb (l : List Int) : ∀ d ∈ l.map PyData.int, nb d = true := by
  intro d hd; obtain ⟨i, _, rfl⟩ := List.mem_map.mp hd; rfl
theorem ints_inj {l l' : List Int} (h : l.map PyData.int = l'.map PyData.int) : l = l' := by
  induction l generalizing l' with
  | nil => cases l' with
    | nil => rfl
    | cons _ _ => cases h
  | cons a l ih => cases l' with
    | nil => cases h
    | cons b l' =>
      simp only [List.map_cons, List.cons.injEq, PyData.int.injEq] at h
      rw [h.1, ih h.2]

theorem keyOf_get {cs : List Code} {i : Nat} {c : Code} (h : cs[i]? = some c) : (keysOf cs)[i]? = some c.key := by rw [keysOf, List.getElem?_map, h]; rfl

theorem fn_check (T : Tx C) {L B : Addr} {cs : List Code} {full : List Row} {b : Nat} {ex : Bool} (hc : CodesOk σ L cs) (eB : σ B = some (.list (dats (full.map Row.d)))) (hl : full.length ≤ 10000) (hn : (labs full).Nodup) (hs : ∀ k, 2 ≤ cs.length → Safe noX cs.length (keysOf cs) k b full) (hb : b ≤ 1000)
    (h : ∀ (r : Bool) σ', Old σ σ' → (r = true → ∀ U g f, SampleOk (keysOf cs) U g f → ∀ y : Ky, y.d ∈ [kVar, kList] ++ U ++ [kConst 5 (g + 1), kStruct (f + 1)] → (if ex then tried cs.length y full else filt (keysOf cs) y.d (tried cs.length y full)) = cand (keysOf cs) y.d cs.length) → P (.bool r) σ') : Fn C 4 348 [.obj L, .obj B, .bool ex] σ P := by
  walk_at "fn"
  intro env hs' hcl
  refine X_forE (ι := Nat) ⟨Or.inr ⟨kind_of hs' (by rfl), hcl _ (by rfl)⟩, by rfl⟩ ?_
  walk_at "call"
  walk_at "a"
  refine (fn_samples T hc fun a U g f σ1 o1 ha sok hU ea => ?_).up (by decide)
  have hSK : ∀ d ∈ [kVar, kList] ++ U ++ [kConst 5 (g + 1), kStruct (f + 1)], IsKey d := by
    intro d hd
    simp only [List.mem_append, List.mem_cons, List.not_mem_nil, or_false] at hd
    rcases hd with ((rfl | rfl) | hd) | (rfl | rfl)
    · exact Ky.isKey .var
    · exact Ky.isKey .list
    · exact hU d hd
    · exact Ky.isKey (.const 5 _)
    · exact Ky.isKey (.struct _)
  generalize hS : [kVar, kList] ++ U ++ [kConst 5 (g + 1), kStruct (f + 1)] = S at *
  have oa : ∀ σ', OldX [] σ1 σ' → Old σ σ' := fun σ' o => o1.trans o
  refine ⟨fun j r σ' => r = (dats S).drop j ∧ j ≤ S.length ∧ Old σ1 σ' ∧ ∀ y : Ky, y.d ∈ S.take j → (if ex then tried cs.length y full else filt (keysOf cs) y.d (tried cs.length y full)) = cand (keysOf cs) y.d cs.length,
    fun _ => [("codes", .obj L), ("block", .obj B), ("exact", .bool ex)], dats S, _, 0, src_list ea, ea, by walk_at "sub", ⟨rfl, Nat.zero_le _, OldX.refl _ _, by simp⟩, ?_, ?_⟩
  · rintro j v r σ2 ⟨hr, hj, o2, hall⟩ hl2
    refine Ex.gen fun PL ln => ?_
    obtain ⟨hv, hr'⟩ := drop_cons hr
    have hlt : j < S.length := by have := (List.getElem?_eq_some_iff.mp hv).1; simpa using this
    obtain ⟨d, hd, _⟩ := drop_head hlt
    rw [List.getElem?_map, hd] at hv
    cases hv
    obtain ⟨y, rfl⟩ := (hSK d (List.mem_of_getElem? hd)).ky
    have hc2 := hc.old (oa σ2 o2)
    have eB2 := oa σ2 o2 B _ (by simp) eB
    obtain ⟨trange, tlen⟩ := tried_range (y := y) hn (fun q => hs _ q) hb
    refine X_assign (by walk_at "sto") ?_
    walk_at "call"
    refine A_cons ?_
    walk_at "v"
    refine A_cons ?_
    walk_at "blt"
    refine A_cons ?_
    walk_at "v"
    refine A_nil ?_
    refine cv_len hc2.list (by have := hc.len; simp; omega) ?_
    walk_at "a"
    rw [List.length_map]
    refine (fn_tried T eB2 hl hn (fun q => hs _ q) hb fun t σ3 o3 ht et => ?_).up (by decide)
    have hc3 := hc2.old o3
    -- the comparison at the end
    have fin : ∀ t' σ4, Old σ1 σ4 → σ4 t' = some (.list (iV (if ex then tried cs.length y full else filt (keysOf cs) y.d (tried cs.length y full)))) → ∀ m4, Sub [("tried", .obj t'), ("key", .dat y.d), ("codes", .obj L), ("block", .obj B), ("exact", .bool ex)] m4 → True := fun _ _ _ _ _ _ => trivial
    refine X_ifJ (ι := Addr) (fun t' σ4 => Old σ1 σ4 ∧ σ4 t' = some (.list (iV (if ex then tried cs.length y full else filt (keysOf cs) y.d (tried cs.length y full)))))
      (fun t' => [("tried", .obj t'), ("key", .dat y.d), ("codes", .obj L), ("block", .obj B), ("exact", .bool ex)]) ?_ ?_
    · refine fun PJ jn jo => ?_
      refine T_not ?_
      refine T_of ?_
      refine E_var (v := .bool ex) (by rfl) ?_
      refine truthy_bool ⟨fun q => ?_, fun q => ?_⟩
      · have hex : ex = false := by simpa using q
        subst hex
        refine X_ac T hs' hcl (by decide) (by rfl) (by decide) (by rfl) (by rfl) (by rfl) (by rfl) (by rfl) ?_
        refine CompSay.byI (fun i acc σ4 => Old σ3 σ4 ∧ acc = iV (filt (keysOf cs) y.d ((tried cs.length y full).take i))) [("codes", .obj L), ("key", .dat y.d)] ⟨rfl, by decide, by rfl, by decide, by rfl, by rfl, by decide, by simp only [List.map_cons, List.map_nil]; decide⟩ ?_
        walk_at "v"
        refine ⟨iV (tried cs.length y full), _, by walk_at "sub", src_list et, et, ⟨OldX.refl _ _, by simp [filt]⟩, ?_, ?_⟩
        · rintro cenv i v acc σ4 hcs hi ⟨o4, rfl⟩ hl4
          rw [List.getElem?_map] at hi
          obtain ⟨x, hx, rfl⟩ := Option.map_eq_some_iff.mp hi
          obtain ⟨hx0, hx1⟩ := trange x (List.mem_of_getElem? hx)
          have hxe : x = ((x.toNat : Nat) : Int) := by omega
          have hxl : x.toNat < cs.length := by omega
          have hcx := List.getElem?_eq_getElem hxl
          have hc4 := hc3.old o4
          have flen : (filt (keysOf cs) y.d ((tried cs.length y full).take i)).length ≤ 1000 := by
            have := filt_len (ks := keysOf cs) (d := y.d) (l := (tried cs.length y full).take i)
            rw [List.length_take] at this; omega
          refine Ts_one ?_
          refine T_of ?_
          walk_at "call"
          refine A_cons ?_
          refine E_ckey T (i := x.toNat) (by rfl) (by rw [← hxe]; rfl) hc4 hcx ?_
          refine A_cons ?_
          walk_at "v"
          refine A_nil ?_
          refine (fn_matching T (hc4.each _ _ hcx).key.nb y.isKey.nb ?_).up (by decide)
          refine truthy_bool ⟨fun q1 => ?_, fun q1 => ?_⟩
          · have hm : MatAt (keysOf cs) y.d x.toNat := ⟨_, keyOf_get hcx, dt q1⟩
            refine E_var (v := .int x) (by rfl) ⟨hl4, by simp; omega, o4, ?_⟩
            rw [take_succ hx, filt_snoc_t hm]; simp [iV]
          · have hm : ¬ MatAt (keysOf cs) y.d x.toNat := by
              rintro ⟨c, hc, hm⟩
              rw [keyOf_get hcx] at hc; cases hc
              exact df q1 hm
            refine ⟨hl4, o4, ?_⟩
            rw [take_succ hx, filt_snoc_f hm]
        · rintro acc σ4 ⟨o4, rfl⟩ hl4 D hD
          refine X_nil (jn D _ _ (by walk_at "sub") ⟨(o2.trans (o3.trans o4)).new hD, ?_⟩)
          rw [upd_same, List.length_map, List.take_length]; rfl
      · have hex : ex = true := by simpa using q
        subst hex
        exact X_nil (jn t _ _ (by walk_at "sub") ⟨o2.trans o3, et⟩)
    · rintro t' σ4 ⟨o4, et'⟩
      have hc4 := hc.old (oa σ4 o4)
      refine X_if ?_
      refine T_cmp ?_
      walk_at "v"
      walk_at "call"
      walk_at "a"
      refine (fn_candidates T hc4 y.isKey.nb fun q σ5 o5 hq eq => ?_).up (by decide)
      have et5 := o5 t' _ (by simp) et'
      rw [iV_dats] at et5 eq
      refine op_ne_list et5 eq (ints_nb _) (ints_nb _) ⟨_, rfl, fun h1 => ?_, fun h1 => ?_⟩
      · refine X_ret ?_
        refine E_bool ?_
        exact ln _ _ _ (h false σ5 (oa σ5 (o4.trans o5)) (fun e => by cases e))
      · have h1 := ints_inj (ndf h1)
        refine X_nil (X_nil (ln _ _ _ ⟨?_, j + 1, by walk_at "sub", hr', hlt, o4.trans o5, ?_⟩))
        · exact o5 _ _ (by simp) (o4 _ _ (by simp) ea)
        · intro y' hy'
          rw [take_succ hd] at hy'
          rcases List.mem_append.mp hy' with hy' | hy'
          · exact hall y' hy'
          · have := List.mem_singleton.mp hy'
            have hyy : y' = y := Ky.inj this
            rw [hyy]; exact h1
  · rintro j σ2 ⟨hr, hj, o2, hall⟩ hl2
    have := drop_nil hr (by simpa using hj)
    rw [List.length_map] at this
    subst this
    rw [List.take_length] at hall
    refine X_ret ?_
    refine E_bool ?_
    refine h true σ2 (oa σ2 o2) fun _ U' g' f' sok' y hy => hall y ?_
    obtain ⟨rfl, rfl, hUU⟩ := sok.same sok'
    rw [← hS]
    simp only [List.mem_append] at hy ⊢
    rcases hy with (hy | hy) | hy
    · exact .inl (.inl hy)
    · exact .inl (.inr ((hUU _).mpr hy))
    · exact .inr hy
end
theorem kvApp_look' {κ : Type} [DecidableEq κ] {l : List (κ × V)} {k k' : κ} {v u : V} (h : kvLook (l ++ [(k, v)]) k' = some u) : (k' = k ∧ u = v) ∨ kvLook l k' = some u := by
  unfold kvLook at h ⊢
  rw [List.find?_append] at h
  cases hf : l.find? (fun p => decide (p.1 = k')) with
  | some p => rw [hf] at h; simp at h ⊢; exact .inr h
  | none =>
    rw [hf] at h
    by_cases e : k = k'
    · simp [e] at h; exact .inl ⟨e.symm, h.symm⟩
    · simp [e] at h

structure Bld where
  a : Addr
  d : Addr
  ro : Addr
  ch : Addr
  kn : Addr
  L : Addr
  cs : List Code
structure BSt where
  rows : List Row
  chains : List (Int × List Nat)
  next : Int
noncomputable def Bld.xs (b : Bld) : List Addr := [b.a, b.d, b.ro, b.ch, b.kn]
noncomputable def chD (p : Int × List Nat) : PyData := .tuple [.int p.1, .tuple (p.2.map fun i : Nat => .int (i : Int))]
noncomputable def mNames : List Str := ["fresh_label", "chain_rows", "chain", "matching_places", "variable_places", "table", "switch", "finish"]
structure BAttr (fs : Vars) (b : Bld) (ar next : Int) : Prop where
  ar : fs.lookup ("arity" : Str) = some (.int ar)
  co : fs.lookup ("codes" : Str) = some (.obj b.L)
  ro : fs.lookup ("rows" : Str) = some (.obj b.ro)
  ch : fs.lookup ("chains" : Str) = some (.obj b.ch)
  kn : fs.lookup ("known" : Str) = some (.obj b.kn)
  nx : fs.lookup ("next_label" : Str) = some (.int next)
  no : ∀ x ∈ mNames, fs.lookup x = none
structure BOk (σ0 : AH) (b : Bld) (ar : Int) (m : Nat) (st : BSt) (σ : AH) : Prop where
  inst : ∃ fs, Inst σ b.a 269 b.d fs ∧ fs.length ≤ m ∧ BAttr fs b ar st.next
  rows : σ b.ro = some (.list (dats (st.rows.map Row.d))) ∧ st.rows.length ≤ m
  chains : σ b.ch = some (.list (dats (st.chains.map chD))) ∧ st.chains.length ≤ m
  known : ∃ kvs, σ b.kn = some (.dT kvs) ∧ kvs.length ≤ m ∧ ∀ k v, kvLook kvs k = some v → ∃ l w, v = .int l ∧ (l, w) ∈ st.chains ∧ k = w.map fun i : Nat => (i : Int)
  ne : b.ro ≠ b.ch
  old : Old σ0 σ
  fresh : ∀ x ∈ b.xs, σ0 x = none
  codes : CodesOk σ0 b.L b.cs
theorem BOk.mono {σ0 σ : AH} {b : Bld} {ar : Int} {m m' : Nat} {st : BSt} (h : BOk σ0 b ar m st σ) (k : m ≤ m') : BOk σ0 b ar m' st σ := by
  obtain ⟨⟨fs, i, l, q⟩, ⟨e1, l1⟩, ⟨e2, l2⟩, ⟨kvs, e3, l3, q3⟩, ne, o, f, c⟩ := h
  exact ⟨⟨fs, i, by omega, q⟩, ⟨e1, by omega⟩, ⟨e2, by omega⟩, ⟨kvs, e3, by omega, q3⟩, ne, o, f, c⟩
/-- a change elsewhere -/
theorem BOk.old' {σ0 σ σ' : AH} {b : Bld} {ar : Int} {m : Nat} {st : BSt} (h : BOk σ0 b ar m st σ) (k : Old σ σ') : BOk σ0 b ar m st σ' := by
  obtain ⟨⟨fs, i, l, q⟩, ⟨e1, l1⟩, ⟨e2, l2⟩, ⟨kvs, e3, l3, q3⟩, ne, o, f, c⟩ := h
  exact ⟨⟨fs, ⟨k _ _ (by simp) i.obj, k _ _ (by simp) i.att⟩, l, q⟩, ⟨k _ _ (by simp) e1, l1⟩, ⟨k _ _ (by simp) e2, l2⟩, ⟨kvs, k _ _ (by simp) e3, l3, q3⟩, ne, o.trans k, f, c⟩
theorem BOk.put {σ0 σ : AH} {b : Bld} {ar : Int} {m : Nat} {st : BSt} (h : BOk σ0 b ar m st σ) {x : Addr} (hx : x ∈ b.xs) {y : AObj} : Old σ0 (upd σ x y) := h.old.then ((OldX.refl [x] σ).put (by simp)) (by intro z hz; rw [List.mem_singleton.mp hz]; exact h.fresh x hx)
/-- an address that σ knows as a list and that is not the builder's -/
theorem BOk.attrs {σ0 σ : AH} {b : Bld} {ar : Int} {m : Nat} {st : BSt} (h : BOk σ0 b ar m st σ) {fs : Vars} {nx : Int} (hl : fs.length ≤ m + 1) (hb : BAttr fs b ar nx) : BOk σ0 b ar (m + 1) { st with next := nx } (upd σ b.d (.attrs fs)) := by
  have o' := h.put (x := b.d) (by simp [Bld.xs]) (y := .attrs fs)
  obtain ⟨⟨fs0, i, l, q⟩, ⟨e1, l1⟩, ⟨e2, l2⟩, ⟨kvs, e3, l3, q3⟩, ne, o, f, c⟩ := h
  refine ⟨⟨fs, i.set, hl, hb⟩, ⟨?_, by dsimp only; omega⟩, ⟨?_, by dsimp only; omega⟩, ⟨kvs, ?_, by omega, q3⟩, ne, o', f, c⟩
  · rw [upd_other (ne_k e1 i.att (by simp))]; exact e1
  · rw [upd_other (ne_k e2 i.att (by simp))]; exact e2
  · rw [upd_other (ne_k e3 i.att (by simp))]; exact e3
theorem BOk.putRows {σ0 σ : AH} {b : Bld} {ar : Int} {m : Nat} {st : BSt} (h : BOk σ0 b ar m st σ) {r : Row} : BOk σ0 b ar (m + 1) { st with rows := st.rows ++ [r] } (upd σ b.ro (.list (dats (st.rows.map Row.d) ++ [.dat r.d]))) := by
  have o' := h.put (x := b.ro) (by simp [Bld.xs]) (y := .list (dats (st.rows.map Row.d) ++ [.dat r.d]))
  obtain ⟨⟨fs0, i, l, q⟩, ⟨e1, l1⟩, ⟨e2, l2⟩, ⟨kvs, e3, l3, q3⟩, ne, o, f, c⟩ := h
  refine ⟨⟨fs0, ⟨?_, ?_⟩, by omega, q⟩, ⟨?_, by simp; omega⟩, ⟨?_, by dsimp only; omega⟩, ⟨kvs, ?_, by omega, q3⟩, ne, o', f, c⟩
  · rw [upd_other (ne_k i.obj e1 (by simp))]; exact i.obj
  · rw [upd_other (ne_k i.att e1 (by simp))]; exact i.att
  · rw [upd_same]; simp [dats]
  · rw [upd_other ne.symm]; exact e2
  · rw [upd_other (ne_k e3 e1 (by simp))]; exact e3
theorem BOk.putChain {σ0 σ : AH} {b : Bld} {ar : Int} {m : Nat} {st : BSt} (h : BOk σ0 b ar m st σ) {l : Int} {w : List Nat} {kvs : List (List Int × V)} (hk : σ b.kn = some (.dT kvs)) :
    BOk σ0 b ar (m + 1) { st with chains := st.chains ++ [(l, w)] } (upd (upd σ b.kn (.dT (kvs ++ [(w.map fun i : Nat => (i : Int), .int l)]))) b.ch (.list (dats (st.chains.map chD) ++ [.dat (chD (l, w))]))) := by
  obtain ⟨⟨fs0, i, ll, q⟩, ⟨e1, l1⟩, ⟨e2, l2⟩, ⟨kvs', e3, l3, q3⟩, ne, o, f, c⟩ := h
  rw [hk] at e3; cases e3
  have e2' : upd σ b.kn (.dT (kvs ++ [(w.map fun i : Nat => (i : Int), .int l)])) b.ch = some (.list (dats (st.chains.map chD))) := by rw [upd_other (ne_k e2 hk (by simp))]; exact e2
  have e1' : upd σ b.kn (.dT (kvs ++ [(w.map fun i : Nat => (i : Int), .int l)])) b.ro = some (.list (dats (st.rows.map Row.d))) := by rw [upd_other (ne_k e1 hk (by simp))]; exact e1
  have e3' : upd σ b.kn (.dT (kvs ++ [(w.map fun i : Nat => (i : Int), .int l)])) b.kn = some (.dT (kvs ++ [(w.map fun i : Nat => (i : Int), .int l)])) := upd_same _ _ _
  have i1 : Inst (upd σ b.kn (.dT (kvs ++ [(w.map fun i : Nat => (i : Int), .int l)]))) b.a 269 b.d fs0 := ⟨by rw [upd_other (ne_k i.obj hk (by simp))]; exact i.obj, by rw [upd_other (ne_k i.att hk (by simp))]; exact i.att⟩
  have oo : OldX [b.kn, b.ch] σ (upd (upd σ b.kn (.dT (kvs ++ [(w.map fun i : Nat => (i : Int), .int l)]))) b.ch (.list (dats (st.chains.map chD) ++ [.dat (chD (l, w))]))) := ((OldX.refl _ _).put (by simp)).put (by simp)
  have o2 : Old σ0 _ := o.then oo (by intro z hz; simp only [List.mem_cons, List.not_mem_nil, or_false] at hz; rcases hz with rfl | rfl <;> exact f _ (by simp [Bld.xs]))
  generalize upd σ b.kn (.dT (kvs ++ [(w.map fun i : Nat => (i : Int), .int l)])) = σ1 at *
  refine ⟨⟨fs0, ⟨?_, ?_⟩, by omega, q⟩, ⟨?_, by dsimp only; omega⟩, ⟨?_, by simp; omega⟩, ⟨kvs ++ [(w.map fun i : Nat => (i : Int), .int l)], ?_, by simp; omega, ?_⟩, ne, o2, f, c⟩
  · rw [upd_other (ne_k i1.obj e2' (by simp))]; exact i1.obj
  · rw [upd_other (ne_k i1.att e2' (by simp))]; exact i1.att
  · rw [upd_other ne]; exact e1'
  · rw [upd_same]; simp [dats]
  · rw [upd_other (ne_k e3' e2' (by simp))]; exact e3'
  · intro k v hv
    rcases kvApp_look' hv with ⟨rfl, rfl⟩ | hv
    · exact ⟨l, w, rfl, by simp, rfl⟩
    · obtain ⟨l', w', h1, h2, h3⟩ := q3 k v hv
      exact ⟨l', w', h1, List.mem_append.mpr (.inl h2), h3⟩
/-- the length of a row's table -/
noncomputable def Row.tl : Row → Nat
  | .con t _ => t.length
  | .str t _ => t.length
  | _ => 0
structure BInv (cnt : Nat) (st : BSt) : Prop where
  ch : ∀ p ∈ st.chains, (cnt : Int) ≤ p.1 ∧ p.1 < st.next ∧ 2 ≤ p.2.length ∧ p.2.length ≤ 4 ∧ ∀ i ∈ p.2, i < cnt
  lab : ∀ l ∈ labs st.rows, (cnt : Int) ≤ l ∧ l < st.next
  nodup : (labs st.rows ++ st.chains.map (·.1)).Nodup
  nx : (cnt : Int) ≤ st.next
  tab : ∀ r ∈ st.rows, r.tl ≤ 8
noncomputable def XL (cnt : Nat) (chains : List (Int × List Nat)) (b : Nat) (l : Int) : Prop := (0 ≤ l ∧ l < (cnt : Int)) ∨ ∃ w, (l, w) ∈ chains ∧ w.length ≤ b
noncomputable def LOk (cnt : Nat) (chains : List (Int × List Nat)) (l : Int) : Prop := l = -1 ∨ XL cnt chains 4 l
theorem LOk.app {cnt : Nat} {ch nw : List (Int × List Nat)} {l : Int} (h : LOk cnt ch l) : LOk cnt (ch ++ nw) l := by
  rcases h with h | h | ⟨w, hw, hl⟩
  · exact .inl h
  · exact .inr (.inl h)
  · exact .inr (.inr ⟨w, List.mem_append.mpr (.inl hw), hl⟩)
structure Ext (st st' : BSt) : Prop where
  rows : st'.rows = st.rows
  ch : ∃ nw, st'.chains = st.chains ++ nw ∧ ∀ p ∈ nw, st.next ≤ p.1
  nx : st.next ≤ st'.next
theorem Ext.refl (st : BSt) : Ext st st := ⟨rfl, ⟨[], by simp, by simp⟩, Int.le_refl _⟩
theorem Ext.trans {a b c : BSt} (h : Ext a b) (k : Ext b c) : Ext a c := by
  obtain ⟨h1, ⟨n1, e1, q1⟩, x1⟩ := h
  obtain ⟨h2, ⟨n2, e2, q2⟩, x2⟩ := k
  refine ⟨h2.trans h1, ⟨n1 ++ n2, by rw [e2, e1, List.append_assoc], ?_⟩, by omega⟩
  intro p hp
  rcases List.mem_append.mp hp with hp | hp
  · exact q1 p hp
  · have := q2 p hp; omega
theorem Ext.lok {a b : BSt} (h : Ext a b) {cnt : Nat} {l : Int} (k : LOk cnt a.chains l) : LOk cnt b.chains l := by
  obtain ⟨_, ⟨nw, e, _⟩, _⟩ := h; rw [e]; exact k.app

section
variable {C : Cx} {n : Nat} {env : Env} {m : Vars} {σ σ0 : AH} {P : V → AH → Prop} {b : Bld} {ar : Int} {k : Nat} {st : BSt}

theorem BAttr.next {fs : Vars} {nx nx' : Int} (h : BAttr fs b ar nx) : BAttr (("next_label", .int nx') :: fs) b ar nx' := by
  refine ⟨lk_tail (by rfl) h.ar, lk_tail (by rfl) h.co, lk_tail (by rfl) h.ro, lk_tail (by rfl) h.ch, lk_tail (by rfl) h.kn, lk_head, fun x hx => lk_tail ?_ (h.no x hx)⟩
  simp only [mNames, List.mem_cons, List.not_mem_nil, or_false] at hx
  rcases hx with rfl | rfl | rfl | rfl | rfl | rfl | rfl | rfl <;> rfl

theorem fn_fresh (T : Tx C) (h : BOk σ0 b ar k st σ) (hk : k ≤ 800) (hP : ∀ σ', OldX [b.d] σ σ' → BOk σ0 b ar (k + 1) { st with next := st.next + 1 } σ' → P (.int st.next) σ') : Fn C 1 217 [.obj b.a] σ P := by
  walk_at "fn"
  intro env hs hcl
  obtain ⟨fs, i, hl, hb⟩ := h.inst
  refine X_assign (by walk_at "sto") ?_
  refine E_va T (by rfl) i hb.nx (by rfl) (by rfl) ?_
  refine X_sa T (a := b.a) (cc := 269) (d := b.d) (by rfl) (by rfl) (by rfl) ?_
  walk_at "a"
  refine op_add ⟨fs, i, by omega, ?_⟩
  refine X_ret ?_
  walk_at "v"
  exact hP _ ((OldX.refl _ _).put (by simp)) (h.attrs (by simp; omega) hb.next)

/-- self.codes[place].key -/
theorem E_bkey (T : Tx C) {x y : Str} {px py p1 p2 p3 : Pos} {i : Nat} {c : Code} (h : BOk σ0 b ar k st σ) (hx : m.lookup x = some (.obj b.a)) (hy : m.lookup y = some (.int (i : Int))) (hi : b.cs[i]? = some c) (hP : P (.dat c.key) σ) :
    Ev C n env m (.Attribute (.Subscript (.Attribute (.Name x px) "codes" p1) (.Name y py) p2) "key" p3) σ P := by
  obtain ⟨fs, ii, hl, hb⟩ := h.inst
  have hc := h.codes.old h.old
  have hci := hc.each i c hi
  have hlt := (List.getElem?_eq_some_iff.mp hi).1
  refine E_as T (E_sub (E_va T hx ii hb.co (by rfl) (by rfl) (E_var hy (op_item_list (v := .obj c.a) hc.list (by have := hc.len; omega) (by rw [List.getElem?_map, hi]; rfl) ?_))))
  exact ⟨c.a, 365, c.d, c.fs, .dat c.key, _, rfl, hci.inst, hci.fk, rfl, rfl, hP⟩

theorem fn_match_places (T : Tx C) {p : Addr} {w : List Nat} {d : PyData} (h : BOk σ0 b ar k st σ) (hw : σ p = some (.list (nV w))) (hwl : w.length ≤ 1000) (hwc : ∀ i ∈ w, i < b.cs.length) (hd : nb d = true)
    (hP : ∀ a w' σ', Old σ σ' → σ a = none → σ' a = some (.list (nV w')) → (∀ i ∈ w', i ∈ w) → w'.length ≤ w.length → P (.obj a) σ') : Fn C 2 238 [.obj b.a, .obj p, .dat d] σ P := by
  walk_at "fn"
  intro env hs hcl
  refine X_assign (by walk_at "sto") ?_
  refine E_list T.ok ?_
  refine A_nil ⟨by simp, fun a ha => ?_⟩
  have e1 : upd σ a (.list []) p = some (.list (nV w)) := upd_old ha hw
  refine X_forI (fun i σ' => OldX [a] σ σ' ∧ ∃ w', σ' a = some (.list (nV w')) ∧ (∀ x ∈ w', x ∈ w) ∧ w'.length ≤ i) [("found", .obj a), ("self", .obj b.a), ("cell_key", .dat d)] (by walk_at "sto") ?_
  walk_at "v"
  refine ⟨nV w, _, src_list e1, e1, by walk_at "sub", ⟨(OldX.refl _ _).new ha, [], upd_same _ _ _, by simp, by simp⟩, ?_, ?_⟩
  · rintro i v σ' hi ⟨o, w', ea, hm, hl⟩ hp
    refine Ex.gen fun PL ln => ?_
    rw [List.getElem?_map] at hi
    obtain ⟨j, hj, rfl⟩ := Option.map_eq_some_iff.mp hi
    have hjw := List.mem_of_getElem? hj
    have hil := (List.getElem?_eq_some_iff.mp hj).1
    have oo : Old σ σ' := o.old (by intro z hz; rw [List.mem_singleton.mp hz]; exact ha)
    have h' := h.old' oo
    have hjc := List.getElem?_eq_getElem (hwc j hjw)
    refine X_if ?_
    refine T_of ?_
    walk_at "call"
    refine A_cons ?_
    refine E_bkey T h' (by rfl) (by rfl) hjc ?_
    walk_at "a"
    refine (fn_matching T (h.codes.each _ _ hjc).key.nb hd ?_).up (by decide)
    refine truthy_bool ⟨fun _ => ?_, fun _ => ?_⟩
    · refine X_expr ?_
      refine E_append T.ok ?_
      walk_at "v"
      refine ⟨a, rfl, ⟨_, ea⟩, ?_⟩
      refine E_var (v := .int (j : Int)) (by rfl) ?_
      refine ⟨_, ea, by simp; omega, rfl, X_nil (X_nil (ln _ _ _ ⟨?_, by walk_at "sub", o.put (by simp), w' ++ [j], ?_, ?_, by simp; omega⟩))⟩
      · have : p ≠ a := by rintro rfl; rw [ha] at hw; cases hw
        rw [upd_other this]; exact hp
      · rw [upd_same]; simp [nV]
      · intro x hx
        rcases List.mem_append.mp hx with hx | hx
        · exact hm x hx
        · rw [List.mem_singleton.mp hx]; exact hjw
    · exact X_nil (X_nil (ln _ _ _ ⟨hp, by walk_at "sub", o, w', ea, hm, by omega⟩))
  · rintro σ' ⟨o, w', ea, hm, hl⟩ hp
    rw [List.length_map] at hl
    refine X_ret ?_
    walk_at "v"
    exact hP a w' σ' (o.old (by intro z hz; rw [List.mem_singleton.mp hz]; exact ha)) ha ea hm hl
theorem fn_var_places (T : Tx C) {p : Addr} {w : List Nat} (h : BOk σ0 b ar k st σ) (hw : σ p = some (.list (nV w))) (hwl : w.length ≤ 1000) (hwc : ∀ i ∈ w, i < b.cs.length)
    (hP : ∀ a w' σ', Old σ σ' → σ a = none → σ' a = some (.list (nV w')) → (∀ i ∈ w', i ∈ w) → w'.length ≤ w.length → P (.obj a) σ') : Fn C 2 245 [.obj b.a, .obj p] σ P := by
  walk_at "fn"
  intro env hs hcl
  refine X_assign (by walk_at "sto") ?_
  refine E_list T.ok ?_
  refine A_nil ⟨by simp, fun a ha => ?_⟩
  have e1 : upd σ a (.list []) p = some (.list (nV w)) := upd_old ha hw
  refine X_forI (fun i σ' => OldX [a] σ σ' ∧ ∃ w', σ' a = some (.list (nV w')) ∧ (∀ x ∈ w', x ∈ w) ∧ w'.length ≤ i) [("found", .obj a), ("self", .obj b.a)] (by walk_at "sto") ?_
  walk_at "v"
  refine ⟨nV w, _, src_list e1, e1, by walk_at "sub", ⟨(OldX.refl _ _).new ha, [], upd_same _ _ _, by simp, by simp⟩, ?_, ?_⟩
  · rintro i v σ' hi ⟨o, w', ea, hm, hl⟩ hp
    refine Ex.gen fun PL ln => ?_
    rw [List.getElem?_map] at hi
    obtain ⟨j, hj, rfl⟩ := Option.map_eq_some_iff.mp hi
    have hjw := List.mem_of_getElem? hj
    have hil := (List.getElem?_eq_some_iff.mp hj).1
    have oo : Old σ σ' := o.old (by intro z hz; rw [List.mem_singleton.mp hz]; exact ha)
    have h' := h.old' oo
    have hjc := List.getElem?_eq_getElem (hwc j hjw)
    refine X_if ?_
    refine T_cmp ?_
    refine E_bkey T h' (by rfl) (by rfl) hjc ?_
    walk_at "v"
    refine op_eq (h.codes.each _ _ hjc).key.nb rfl ⟨_, rfl, fun _ => ?_, fun _ => ?_⟩
    · refine X_expr ?_
      refine E_append T.ok ?_
      walk_at "v"
      refine ⟨a, rfl, ⟨_, ea⟩, ?_⟩
      refine E_var (v := .int (j : Int)) (by rfl) ?_
      refine ⟨_, ea, by simp; omega, rfl, X_nil (X_nil (ln _ _ _ ⟨?_, by walk_at "sub", o.put (by simp), w' ++ [j], ?_, ?_, by simp; omega⟩))⟩
      · have : p ≠ a := by rintro rfl; rw [ha] at hw; cases hw
        rw [upd_other this]; exact hp
      · rw [upd_same]; simp [nV]
      · intro x hx
        rcases List.mem_append.mp hx with hx | hx
        · exact hm x hx
        · rw [List.mem_singleton.mp hx]; exact hjw
    · exact X_nil (X_nil (ln _ _ _ ⟨hp, by walk_at "sub", o, w', ea, hm, by omega⟩))
  · rintro σ' ⟨o, w', ea, hm, hl⟩ hp
    rw [List.length_map] at hl
    refine X_ret ?_
    walk_at "v"
    exact hP a w' σ' (o.old (by intro z hz; rw [List.mem_singleton.mp hz]; exact ha)) ha ea hm hl

theorem nV_dats (w : List Nat) : nV w = dats ((w.map fun i : Nat => (i : Int)).map PyData.int) := by simp [nV, dats]
theorem natInj {w w' : List Nat} (h : (w.map fun i : Nat => (i : Int)) = w'.map fun i : Nat => (i : Int)) : w = w' := by
  induction w generalizing w' with
  | nil => cases w' with
    | nil => rfl
    | cons _ _ => cases h
  | cons a w ih => cases w' with
    | nil => cases h
    | cons b w' =>
      simp only [List.map_cons, List.cons.injEq] at h
      rw [show a = b by omega, ih h.2]
theorem depth_ints (l : List Int) : PyData.depthAll (l.map PyData.int) ≤ 1 := depthAll_of (by intro d hd; obtain ⟨i, _, rfl⟩ := List.mem_map.mp hd; simp [PyData.depth])

theorem fn_chain (T : Tx C) {cnt : Nat} {p : Addr} {w : List Nat} (h : BOk σ0 b ar k st σ) (hk : k ≤ 700) (hi : BInv cnt st) (hw : σ p = some (.list (nV w))) (hp : p ∉ b.xs) (hwl : w.length ≤ 4) (hwc : ∀ i ∈ w, i < cnt)
    (hP : ∀ l st' σ', OldX b.xs σ σ' → BOk σ0 b ar (k + 2) st' σ' → BInv cnt st' → Ext st st' → LOk cnt st'.chains l → P (.int l) σ') : Fn C 2 231 [.obj b.a, .obj p] σ P := by
  walk_at "fn"
  intro env hs hcl
  have hlen : (nV w).length = w.length := by simp
  refine X_if ?_
  refine T_cmp ?_
  walk_at "blt"
  walk_at "a"
  refine cv_len hw (by omega) ?_
  walk_at "v"
  refine op_eq rfl rfl ⟨_, rfl, fun _ => ?_, fun h1 => ?_⟩
  · refine X_ret ?_
    walk_at "v"
    exact hP (-1) st σ (OldX.refl _ _) (h.mono (by omega)) hi (Ext.refl _) (.inl rfl)
  refine X_nil ?_
  refine X_if ?_
  refine T_cmp ?_
  walk_at "blt"
  walk_at "a"
  refine cv_len hw (by omega) ?_
  walk_at "v"
  have hw0 : w.length ≠ 0 := by intro q; rw [hlen, q] at h1; exact df h1 rfl
  refine op_eq rfl rfl ⟨_, rfl, fun h2 => ?_, fun h2 => ?_⟩
  · refine X_ret ?_
    refine E_sub ?_
    walk_at "v"
    walk_at "v"
    have hlt : 0 < w.length := by omega
    refine op_item_list (k := 0) (v := .int ((w[0] : Nat) : Int)) hw (by decide) (by rw [List.getElem?_map, List.getElem?_eq_getElem hlt]; rfl) ?_
    exact hP _ st σ (OldX.refl _ _) (h.mono (by omega)) hi (Ext.refl _) (.inr (.inl ⟨by omega, by have := hwc _ (List.getElem_mem hlt); omega⟩))
  refine X_nil ?_
  have hw1 : w.length ≠ 1 := by intro q; rw [hlen, q] at h2; exact df h2 rfl
  refine X_assign (by walk_at "sto") ?_
  walk_at "blt"
  walk_at "a"
  refine cv_tuple (.inl hw) (nV_dats w) (by simp; omega) (by have := depth_ints (w.map fun i : Nat => (i : Int)); omega) ?_
  obtain ⟨kvs, ek, lk, qk⟩ := h.known
  obtain ⟨fs, i, hl, hb⟩ := h.inst
  refine X_if ?_
  refine T_cmp ?_
  walk_at "v"
  refine E_va T (by rfl) i hb.kn (by rfl) (by rfl) ?_
  refine op_in_dT ek ⟨_, rfl, fun h3 => ?_, fun h3 => ?_⟩
  · obtain ⟨v, hv⟩ := Option.isSome_iff_exists.mp h3
    obtain ⟨l, w', rfl, hm, hww⟩ := qk _ _ hv
    obtain rfl := natInj hww
    refine X_ret ?_
    refine E_sub ?_
    refine E_va T (by rfl) i hb.kn (by rfl) (by rfl) ?_
    walk_at "v"
    refine op_item_dT ek hv ?_
    exact hP l st σ (OldX.refl _ _) (h.mono (by omega)) hi (Ext.refl _) (.inr (.inr ⟨w, hm, hwl⟩))
  refine X_nil ?_
  have hnone : kvLook kvs (w.map fun i : Nat => (i : Int)) = none := by
    cases e : kvLook kvs (w.map fun i : Nat => (i : Int)) with
    | none => rfl
    | some v => rw [e] at h3; cases h3
  refine X_assign (by walk_at "sto") ?_
  refine E_vm T (by rfl) i (hb.no _ (by decide)) (by rfl) (by rfl) (by rfl) ?_
  refine A_nil ?_
  refine (fn_fresh T h (by omega) fun σ1 o1 h1' => ?_).up (by decide)
  have ek1 : σ1 b.kn = some (.dT kvs) := o1 _ _ (by simp; exact ne_k ek i.att (by simp)) ek
  obtain ⟨fs1, i1, hl1, hb1⟩ := h1'.inst
  have ec1 := h1'.chains.1
  refine X_setitem ?_
  walk_at "v"
  refine E_va T (by rfl) i1 hb1.kn (by rfl) (by rfl) ?_
  walk_at "v"
  refine put_dT ek1 (by omega) hnone ?_
  have h2' := h1'.putChain (l := st.next) (w := w) ek1
  have oo : OldX b.xs σ1 (upd (upd σ1 b.kn (.dT (kvs ++ [(w.map fun i : Nat => (i : Int), .int st.next)]))) b.ch (.list (dats (st.chains.map chD) ++ [.dat (chD (st.next, w))]))) := ((OldX.refl _ _).put (by simp [Bld.xs])).put (by simp [Bld.xs])
  have ec2 : upd σ1 b.kn (.dT (kvs ++ [(w.map fun i : Nat => (i : Int), .int st.next)])) b.ch = some (.list (dats (st.chains.map chD))) := by rw [upd_other (ne_k ec1 ek1 (by simp))]; exact ec1
  have i2 : Inst (upd σ1 b.kn (.dT (kvs ++ [(w.map fun i : Nat => (i : Int), .int st.next)]))) b.a 269 b.d fs1 := ⟨by rw [upd_other (ne_k i1.obj ek1 (by simp))]; exact i1.obj, by rw [upd_other (ne_k i1.att ek1 (by simp))]; exact i1.att⟩
  refine X_expr ?_
  refine E_append T.ok ?_
  refine E_va T (by rfl) i2 hb1.ch (by rfl) (by rfl) ?_
  refine ⟨_, rfl, ⟨_, ec2⟩, ?_⟩
  refine E_tuple ?_
  walk_at "a"
  refine ⟨[.int st.next, .tuple ((w.map fun i : Nat => (i : Int)).map PyData.int)], rfl, ?_, by simp, ?_⟩
  · have := depth_ints (w.map fun i : Nat => (i : Int))
    simp only [PyData.depthAll, PyData.depth]; omega
  have hcl' : st.chains.length ≤ k + 1 := h1'.chains.2
  have hch : V.tup [.int st.next, .tuple ((w.map fun i : Nat => (i : Int)).map PyData.int)] = .dat (chD (st.next, w)) := by simp [chD]
  rw [hch]
  refine ⟨_, ec2, by simp; omega, rfl, ?_⟩
  refine X_ret ?_
  walk_at "v"
  refine hP st.next _ _ ((o1.mono (by intro z hz; rw [List.mem_singleton.mp hz]; simp [Bld.xs])).trans oo) (h2'.mono (by omega)) ?_ ⟨rfl, ⟨[(st.next, w)], rfl, by simp⟩, by dsimp only; omega⟩ (.inr (.inr ⟨w, by simp, hwl⟩))
  have hnx := hi.nx
  refine ⟨?_, ?_, ?_, by dsimp only; omega, hi.tab⟩
  · intro q hq
    rcases List.mem_append.mp hq with hq | hq
    · obtain ⟨a1, a2, a3⟩ := hi.ch q hq; exact ⟨a1, by dsimp only; omega, a3⟩
    · obtain rfl := List.mem_singleton.mp hq
      exact ⟨hnx, by dsimp only; omega, by dsimp only; omega, hwl, hwc⟩
  · intro l hl
    have := hi.lab l hl
    dsimp only; omega
  · dsimp only
    rw [List.map_append, ← List.append_assoc]
    refine List.nodup_append.mpr ⟨hi.nodup, by simp, ?_⟩
    intro x hx y hy
    obtain rfl : y = st.next := by simpa using hy
    rcases List.mem_append.mp hx with hx | hx
    · have := hi.lab x hx; omega
    · obtain ⟨q, hq, rfl⟩ := List.mem_map.mp hx
      have := (hi.ch q hq).2.1; omega
end
theorem BOk.known_xs {σ0 σ : AH} {b : Bld} {ar : Int} {m : Nat} {st : BSt} (h : BOk σ0 b ar m st σ) {q : Addr} (hq : σ q = none) : q ∉ b.xs := by
  obtain ⟨⟨fs, i, l, _⟩, ⟨e1, l1⟩, ⟨e2, l2⟩, ⟨kvs, e3, l3, q3⟩, ne, o, f, c⟩ := h
  intro hx
  simp only [Bld.xs, List.mem_cons, List.not_mem_nil, or_false] at hx
  rcases hx with rfl | rfl | rfl | rfl | rfl
  · rw [i.obj] at hq; cases hq
  · rw [i.att] at hq; cases hq
  · rw [e1] at hq; cases hq
  · rw [e2] at hq; cases hq
  · rw [e3] at hq; cases hq
theorem BOk.oldX {σ0 σ σ' : AH} {b : Bld} {ar : Int} {m : Nat} {st : BSt} (h : BOk σ0 b ar m st σ) {X : List Addr} (k : OldX X σ σ') (hX : ∀ x ∈ X, x ∉ b.xs) (h0 : ∀ x ∈ X, σ0 x = none) : BOk σ0 b ar m st σ' := by
  obtain ⟨⟨fs, i, l, q⟩, ⟨e1, l1⟩, ⟨e2, l2⟩, ⟨kvs, e3, l3, q3⟩, ne, o, f, c⟩ := h
  have nx : ∀ x ∈ b.xs, x ∉ X := fun x hx q => hX x q hx
  exact ⟨⟨fs, ⟨k _ _ (nx _ (by simp [Bld.xs])) i.obj, k _ _ (nx _ (by simp [Bld.xs])) i.att⟩, l, q⟩, ⟨k _ _ (nx _ (by simp [Bld.xs])) e1, l1⟩, ⟨k _ _ (nx _ (by simp [Bld.xs])) e2, l2⟩, ⟨kvs, k _ _ (nx _ (by simp [Bld.xs])) e3, l3, q3⟩, ne, o.then k h0, f, c⟩

section
variable {C : Cx} {n : Nat} {env : Env} {m : Vars} {σ σ0 : AH} {P : V → AH → Prop} {b : Bld} {ar : Int} {k : Nat} {st : BSt}

structure TabC (b : Bld) (cnt : Nat) (ch : List (Int × List Nat)) (t : List (Int × Int × Int)) : Prop where
  ok : ∀ e ∈ t, kConst e.1 e.2.1 ∈ keysOf b.cs ∧ LOk cnt ch e.2.2
theorem fn_tableC (T : Tx C) {cnt : Nat} {p : Addr} {w : List Nat} (hcnt : b.cs.length = cnt) (h : BOk σ0 b ar k st σ) (hk : k ≤ 600) (hi : BInv cnt st) (hw : σ p = some (.list (nV w))) (hp : p ∉ b.xs) (hwl : w.length ≤ 4) (hwc : ∀ i ∈ w, i < cnt)
    (hP : ∀ t st' σ', OldX b.xs σ σ' → BOk σ0 b ar (k + 8) st' σ' → BInv cnt st' → Ext st st' → TabC b cnt st'.chains t → t.length ≤ 4 → P (.tup (t.map conE)) σ') : Fn C 3 252 [.obj b.a, .obj p, .str "const"] σ P := by
  walk_at "fn"
  intro env hs hcl
  refine X_assign (by walk_at "sto") ?_
  refine E_list T.ok ?_
  refine A_nil ⟨by simp, fun q hq => ?_⟩
  refine X_assign (by walk_at "sto") ?_
  refine E_dT T.ok fun s hs1 => ?_
  have hs0 : σ s = none := by
    cases e : σ s with
    | none => rfl
    | some z => rw [upd_old hq e] at hs1; cases hs1
  have nqs : q ≠ s := by rintro rfl; rw [upd_same] at hs1; cases hs1
  have q0 : σ0 q = none := h.old.none (by simp) hq
  have s0 : σ0 s = none := h.old.none (by simp) hs0
  have qx := h.known_xs hq
  have sx := h.known_xs hs0
  have pq : p ≠ q := by rintro rfl; rw [hw] at hq; cases hq
  have ps : p ≠ s := by rintro rfl; rw [hw] at hs0; cases hs0
  have hXX : ∀ x ∈ [q, s], x ∉ b.xs := by intro x hx; simp only [List.mem_cons, List.not_mem_nil, or_false] at hx; rcases hx with rfl | rfl <;> assumption
  have hX0 : ∀ x ∈ [q, s], σ0 x = none := by intro x hx; simp only [List.mem_cons, List.not_mem_nil, or_false] at hx; rcases hx with rfl | rfl <;> assumption
  have o1 : OldX [q, s] σ (upd (upd σ q (.list [])) s (.dT [])) := ((OldX.refl _ _).put (by simp)).put (by simp)
  have ep1 : upd (upd σ q (.list [])) s (.dT []) p = some (.list (nV w)) := by rw [upd_other ps, upd_other pq]; exact hw
  refine X_forI (fun i σ' => OldX (q :: s :: b.xs) σ σ' ∧ ∃ t st' kvs, σ' q = some (.list (dats (t.map conE))) ∧ σ' s = some (.dT kvs) ∧ kvs.length ≤ i ∧ BOk σ0 b ar (k + 2 * i) st' σ' ∧ BInv cnt st' ∧ Ext st st' ∧ TabC b cnt st'.chains t ∧ t.length ≤ i)
    [("seen", .obj s), ("pairs", .obj q), ("self", .obj b.a), ("places", .obj p), ("kind", .str "const")] (by walk_at "sto") ?_
  walk_at "v"
  refine ⟨nV w, _, src_list ep1, ep1, by walk_at "sub", ⟨o1.mono (by simp), [], st, [], by rw [upd_other nqs]; exact upd_same _ _ _, upd_same _ _ _, by simp, h.oldX o1 hXX hX0, hi, Ext.refl _, ⟨by simp⟩, by simp⟩, ?_, ?_⟩
  · rintro i v σ' hiv ⟨o, t, st', kvs, eq', es', lkv, h', hi', hx, ht, hlt⟩ hpp
    refine Ex.gen fun PL ln => ?_
    rw [List.getElem?_map] at hiv
    obtain ⟨j, hj, rfl⟩ := Option.map_eq_some_iff.mp hiv
    have hjw := List.mem_of_getElem? hj
    have hil := (List.getElem?_eq_some_iff.mp hj).1
    obtain ⟨cc, hjc, _⟩ := drop_head (l := b.cs) (show j < b.cs.length by rw [hcnt]; exact hwc j hjw)
    have hkey : cc.key ∈ keysOf b.cs := List.mem_map_of_mem (List.mem_of_getElem? hjc)
    have hkk := (h.codes.each _ _ hjc).key
    have skip : OldX (q :: s :: b.xs) σ σ' ∧ ∃ t st' kvs, σ' q = some (.list (dats (t.map conE))) ∧ σ' s = some (.dT kvs) ∧ kvs.length ≤ i + 1 ∧ BOk σ0 b ar (k + 2 * (i + 1)) st' σ' ∧ BInv cnt st' ∧ Ext st st' ∧ TabC b cnt st'.chains t ∧ t.length ≤ i + 1 :=
      ⟨o, t, st', kvs, eq', es', by omega, h'.mono (by omega), hi', hx, ht, by omega⟩
    refine X_assign (by walk_at "sto") ?_
    refine E_bkey T h' (by rfl) (by rfl) hjc ?_
    generalize cc.key = key at *
    refine X_if ?_
    refine T_and ?_
    refine T_cmp ?_
    rcases hkk with rfl | rfl | ⟨x, rfl⟩ | ⟨c, x, rfl⟩
    · refine E_ti 0 (by rfl) (by rfl) (by decide) (by rfl) ?_
      refine E_var (v := .str "const") (by rfl) ?_
      exact op_eq rfl rfl ⟨_, rfl, fun h1 => absurd (dt h1) (sne (by decide)), fun h1 => ⟨fun q => (by cases q), fun _ => X_nil (X_nil (ln _ _ _ ⟨hpp, by walk_at "sub", skip⟩))⟩⟩
    · refine E_ti 0 (by rfl) (by rfl) (by decide) (by rfl) ?_
      refine E_var (v := .str "const") (by rfl) ?_
      exact op_eq rfl rfl ⟨_, rfl, fun h1 => absurd (dt h1) (sne (by decide)), fun h1 => ⟨fun q => (by cases q), fun _ => X_nil (X_nil (ln _ _ _ ⟨hpp, by walk_at "sub", skip⟩))⟩⟩
    · refine E_ti 0 (by rfl) (by rfl) (by decide) (by rfl) ?_
      refine E_var (v := .str "const") (by rfl) ?_
      exact op_eq rfl rfl ⟨_, rfl, fun h1 => absurd (dt h1) (sne (by decide)), fun h1 => ⟨fun q => (by cases q), fun _ => X_nil (X_nil (ln _ _ _ ⟨hpp, by walk_at "sub", skip⟩))⟩⟩
    · refine E_ti 0 (by rfl) (by rfl) (by decide) (by rfl) ?_
      refine E_var (v := .str "const") (by rfl) ?_
      refine op_eq rfl rfl ⟨_, rfl, fun _ => ?_, fun h1 => absurd rfl (df h1)⟩
      refine T_cmp ?_
      refine E_ti 1 (by rfl) (by rfl) (by decide) (by rfl) ?_
      walk_at "v"
      refine op_notin_dT (k := [c, x]) es' ⟨_, rfl, fun h2 => ?_, fun _ => X_nil (X_nil (ln _ _ _ ⟨hpp, by walk_at "sub", skip⟩))⟩
      have hnone : kvLook kvs [c, x] = none := by
        cases e : kvLook kvs [c, x] with
        | none => rfl
        | some v => rw [e] at h2; cases h2
      refine X_setitem ?_
      walk_at "v"
      walk_at "v"
      refine E_ti 1 (by rfl) (by rfl) (by decide) (by rfl) ?_
      refine put_dT (k := [c, x]) es' (by omega) hnone ?_
      have es2 : upd σ' s (.dT (kvs ++ [([c, x], .bool true)])) s = some (.dT (kvs ++ [([c, x], .bool true)])) := upd_same _ _ _
      have eq2 : upd σ' s (.dT (kvs ++ [([c, x], .bool true)])) q = some (.list (dats (t.map conE))) := by rw [upd_other nqs]; exact eq'
      have ep2 : upd σ' s (.dT (kvs ++ [([c, x], .bool true)])) p = some (.list (nV w)) := by rw [upd_other ps]; exact hpp
      have os : OldX [q, s] σ' (upd σ' s (.dT (kvs ++ [([c, x], .bool true)]))) := (OldX.refl _ _).put (by simp)
      have h2' := h'.oldX os hXX hX0
      have o2 : OldX (q :: s :: b.xs) σ (upd σ' s (.dT (kvs ++ [([c, x], .bool true)]))) := o.trans (os.mono (by simp))
      generalize upd σ' s (.dT (kvs ++ [([c, x], .bool true)])) = σ2 at *
      obtain ⟨fs2, i2, hl2, hb2⟩ := h2'.inst
      refine X_expr ?_
      refine E_append T.ok ?_
      walk_at "v"
      refine ⟨q, rfl, ⟨_, eq2⟩, ?_⟩
      refine E_tuple ?_
      refine A_cons ?_
      refine E_ti 1 (by rfl) (by rfl) (by decide) (by rfl) ?_
      refine A_cons ?_
      refine E_vm T (by rfl) i2 (hb2.no _ (by decide)) (by rfl) (by rfl) (by rfl) ?_
      refine A_cons ?_
      refine E_vm T (by rfl) i2 (hb2.no _ (by decide)) (by rfl) (by rfl) (by rfl) ?_
      walk_at "a"
      refine (fn_match_places T h2' ep2 (by omega) (fun x hx => by rw [hcnt]; exact hwc x hx) (by rfl) fun f wf σ3 o3 hf ef hfw hfl => ?_).up (by decide)
      have h3' := h2'.old' o3
      have fx := h2'.known_xs hf
      refine A_nil ?_
      refine (fn_chain T h3' (by omega) hi' ef fx (by omega) (fun x hx => hwc x (hfw x hx)) fun l st4 σ4 o4 h4' hi4 hx4 hlo => ?_).up (by decide)
      have eq4 : σ4 q = some (.list (dats (t.map conE))) := o4 q _ qx (o3 q _ (by simp) eq2)
      have es4 : σ4 s = some (.dT (kvs ++ [([c, x], .bool true)])) := o4 s _ sx (o3 s _ (by simp) es2)
      have ep4 : σ4 p = some (.list (nV w)) := o4 p _ hp (o3 p _ (by simp) ep2)
      refine A_nil ⟨[.tuple [.int c, .int x], .int l], rfl, by simp [PyData.depth, PyData.depthAll], by simp, ?_⟩
      have o5 : OldX (q :: s :: b.xs) σ σ4 := (o2.trans o3.x).trans (o4.mono (by intro z hz; simp [hz]))
      have oq : OldX [q, s] σ4 (upd σ4 q (.list (dats (t.map conE) ++ [V.tup [.tuple [.int c, .int x], .int l]]))) := (OldX.refl _ _).put (by simp)
      refine ⟨_, eq4, by simp; omega, rfl, X_nil (X_nil (ln _ _ _ ⟨?_, by walk_at "sub", o5.put (by simp), t ++ [(c, x, l)], st4, (kvs ++ [([c, x], .bool true)]), ?_, ?_, ?_, (h4'.oldX oq hXX hX0).mono (by omega), hi4, hx.trans hx4, ⟨?_⟩, by simp; omega⟩))⟩
      · rw [upd_other pq]; exact ep4
      · rw [upd_same]; simp [dats, conE]
      · rw [upd_other nqs.symm]; exact es4
      · simp; omega
      · intro e he
        rcases List.mem_append.mp he with he | he
        · obtain ⟨a1, a2⟩ := ht.ok e he; exact ⟨a1, hx4.lok a2⟩
        · obtain rfl := List.mem_singleton.mp he; exact ⟨hkey, hlo⟩

  · rintro σ' ⟨o, t, st', kvs, eq', es', lkv, h', hi', hx, ht, hlt⟩ hpp
    rw [List.length_map] at *
    refine X_ret ?_
    walk_at "blt"
    walk_at "a"
    refine cv_tuple (.inl eq') rfl (by simp; omega) ?_ ?_
    · refine depthAll_of fun d hd => ?_
      obtain ⟨e, _, rfl⟩ := List.mem_map.mp hd
      simp [conE, PyData.depth, PyData.depthAll]
    · refine hP t st' σ' ?_ (h'.mono (by omega)) hi' hx ht (by omega)
      intro z y hz e
      by_cases hzq : z = q
      · subst hzq; rw [hq] at e; cases e
      · by_cases hzs : z = s
        · subst hzs; rw [hs0] at e; cases e
        · exact o z y (by simp [hzq, hzs, hz]) e

structure TabS (b : Bld) (cnt : Nat) (ch : List (Int × List Nat)) (t : List (Int × Int)) : Prop where
  ok : ∀ e ∈ t, kStruct e.1 ∈ keysOf b.cs ∧ LOk cnt ch e.2
theorem fn_tableS (T : Tx C) {cnt : Nat} {p : Addr} {w : List Nat} (hcnt : b.cs.length = cnt) (h : BOk σ0 b ar k st σ) (hk : k ≤ 600) (hi : BInv cnt st) (hw : σ p = some (.list (nV w))) (hp : p ∉ b.xs) (hwl : w.length ≤ 4) (hwc : ∀ i ∈ w, i < cnt)
    (hP : ∀ t st' σ', OldX b.xs σ σ' → BOk σ0 b ar (k + 8) st' σ' → BInv cnt st' → Ext st st' → TabS b cnt st'.chains t → t.length ≤ 4 → P (.tup (t.map strE)) σ') : Fn C 3 252 [.obj b.a, .obj p, .str "struct"] σ P := by
  walk_at "fn"
  intro env hs hcl
  refine X_assign (by walk_at "sto") ?_
  refine E_list T.ok ?_
  refine A_nil ⟨by simp, fun q hq => ?_⟩
  refine X_assign (by walk_at "sto") ?_
  refine E_dI T.ok fun s hs1 => ?_
  have hs0 : σ s = none := by
    cases e : σ s with
    | none => rfl
    | some z => rw [upd_old hq e] at hs1; cases hs1
  have nqs : q ≠ s := by rintro rfl; rw [upd_same] at hs1; cases hs1
  have q0 : σ0 q = none := h.old.none (by simp) hq
  have s0 : σ0 s = none := h.old.none (by simp) hs0
  have qx := h.known_xs hq
  have sx := h.known_xs hs0
  have pq : p ≠ q := by rintro rfl; rw [hw] at hq; cases hq
  have ps : p ≠ s := by rintro rfl; rw [hw] at hs0; cases hs0
  have hXX : ∀ x ∈ [q, s], x ∉ b.xs := by intro x hx; simp only [List.mem_cons, List.not_mem_nil, or_false] at hx; rcases hx with rfl | rfl <;> assumption
  have hX0 : ∀ x ∈ [q, s], σ0 x = none := by intro x hx; simp only [List.mem_cons, List.not_mem_nil, or_false] at hx; rcases hx with rfl | rfl <;> assumption
  have o1 : OldX [q, s] σ (upd (upd σ q (.list [])) s (.dI [])) := ((OldX.refl _ _).put (by simp)).put (by simp)
  have ep1 : upd (upd σ q (.list [])) s (.dI []) p = some (.list (nV w)) := by rw [upd_other ps, upd_other pq]; exact hw
  refine X_forI (fun i σ' => OldX (q :: s :: b.xs) σ σ' ∧ ∃ t st' kvs, σ' q = some (.list (dats (t.map strE))) ∧ σ' s = some (.dI kvs) ∧ kvs.length ≤ i ∧ BOk σ0 b ar (k + 2 * i) st' σ' ∧ BInv cnt st' ∧ Ext st st' ∧ TabS b cnt st'.chains t ∧ t.length ≤ i)
    [("seen", .obj s), ("pairs", .obj q), ("self", .obj b.a), ("places", .obj p), ("kind", .str "struct")] (by walk_at "sto") ?_
  walk_at "v"
  refine ⟨nV w, _, src_list ep1, ep1, by walk_at "sub", ⟨o1.mono (by simp), [], st, [], by rw [upd_other nqs]; exact upd_same _ _ _, upd_same _ _ _, by simp, h.oldX o1 hXX hX0, hi, Ext.refl _, ⟨by simp⟩, by simp⟩, ?_, ?_⟩
  · rintro i v σ' hiv ⟨o, t, st', kvs, eq', es', lkv, h', hi', hx, ht, hlt⟩ hpp
    refine Ex.gen fun PL ln => ?_
    rw [List.getElem?_map] at hiv
    obtain ⟨j, hj, rfl⟩ := Option.map_eq_some_iff.mp hiv
    have hjw := List.mem_of_getElem? hj
    have hil := (List.getElem?_eq_some_iff.mp hj).1
    obtain ⟨cc, hjc, _⟩ := drop_head (l := b.cs) (show j < b.cs.length by rw [hcnt]; exact hwc j hjw)
    have hkey : cc.key ∈ keysOf b.cs := List.mem_map_of_mem (List.mem_of_getElem? hjc)
    have hkk := (h.codes.each _ _ hjc).key
    have skip : OldX (q :: s :: b.xs) σ σ' ∧ ∃ t st' kvs, σ' q = some (.list (dats (t.map strE))) ∧ σ' s = some (.dI kvs) ∧ kvs.length ≤ i + 1 ∧ BOk σ0 b ar (k + 2 * (i + 1)) st' σ' ∧ BInv cnt st' ∧ Ext st st' ∧ TabS b cnt st'.chains t ∧ t.length ≤ i + 1 :=
      ⟨o, t, st', kvs, eq', es', by omega, h'.mono (by omega), hi', hx, ht, by omega⟩
    refine X_assign (by walk_at "sto") ?_
    refine E_bkey T h' (by rfl) (by rfl) hjc ?_
    generalize cc.key = key at *
    refine X_if ?_
    refine T_and ?_
    refine T_cmp ?_
    rcases hkk with rfl | rfl | ⟨x, rfl⟩ | ⟨c, x, rfl⟩
    · refine E_ti 0 (by rfl) (by rfl) (by decide) (by rfl) ?_
      refine E_var (v := .str "struct") (by rfl) ?_
      exact op_eq rfl rfl ⟨_, rfl, fun h1 => absurd (dt h1) (sne (by decide)), fun h1 => ⟨fun q => (by cases q), fun _ => X_nil (X_nil (ln _ _ _ ⟨hpp, by walk_at "sub", skip⟩))⟩⟩
    · refine E_ti 0 (by rfl) (by rfl) (by decide) (by rfl) ?_
      refine E_var (v := .str "struct") (by rfl) ?_
      exact op_eq rfl rfl ⟨_, rfl, fun h1 => absurd (dt h1) (sne (by decide)), fun h1 => ⟨fun q => (by cases q), fun _ => X_nil (X_nil (ln _ _ _ ⟨hpp, by walk_at "sub", skip⟩))⟩⟩
    · refine E_ti 0 (by rfl) (by rfl) (by decide) (by rfl) ?_
      refine E_var (v := .str "struct") (by rfl) ?_
      refine op_eq rfl rfl ⟨_, rfl, fun _ => ?_, fun h1 => absurd rfl (df h1)⟩
      refine T_cmp ?_
      refine E_ti 1 (by rfl) (by rfl) (by decide) (by rfl) ?_
      walk_at "v"
      refine op_notin_dI (k := x) es' ⟨_, rfl, fun h2 => ?_, fun _ => X_nil (X_nil (ln _ _ _ ⟨hpp, by walk_at "sub", skip⟩))⟩
      have hnone : kvLook kvs x = none := by
        cases e : kvLook kvs x with
        | none => rfl
        | some v => rw [e] at h2; cases h2
      refine X_setitem ?_
      walk_at "v"
      walk_at "v"
      refine E_ti 1 (by rfl) (by rfl) (by decide) (by rfl) ?_
      refine put_dI es' (by omega) ?_
      have es2 : upd σ' s (.dI (kvPut kvs x (.bool true))) s = some (.dI (kvPut kvs x (.bool true))) := upd_same _ _ _
      have eq2 : upd σ' s (.dI (kvPut kvs x (.bool true))) q = some (.list (dats (t.map strE))) := by rw [upd_other nqs]; exact eq'
      have ep2 : upd σ' s (.dI (kvPut kvs x (.bool true))) p = some (.list (nV w)) := by rw [upd_other ps]; exact hpp
      have os : OldX [q, s] σ' (upd σ' s (.dI (kvPut kvs x (.bool true)))) := (OldX.refl _ _).put (by simp)
      have h2' := h'.oldX os hXX hX0
      have o2 : OldX (q :: s :: b.xs) σ (upd σ' s (.dI (kvPut kvs x (.bool true)))) := o.trans (os.mono (by simp))
      generalize upd σ' s (.dI (kvPut kvs x (.bool true))) = σ2 at *
      obtain ⟨fs2, i2, hl2, hb2⟩ := h2'.inst
      refine X_expr ?_
      refine E_append T.ok ?_
      walk_at "v"
      refine ⟨q, rfl, ⟨_, eq2⟩, ?_⟩
      refine E_tuple ?_
      refine A_cons ?_
      refine E_ti 1 (by rfl) (by rfl) (by decide) (by rfl) ?_
      refine A_cons ?_
      refine E_vm T (by rfl) i2 (hb2.no _ (by decide)) (by rfl) (by rfl) (by rfl) ?_
      refine A_cons ?_
      refine E_vm T (by rfl) i2 (hb2.no _ (by decide)) (by rfl) (by rfl) (by rfl) ?_
      walk_at "a"
      refine (fn_match_places T h2' ep2 (by omega) (fun x hx => by rw [hcnt]; exact hwc x hx) (by rfl) fun f wf σ3 o3 hf ef hfw hfl => ?_).up (by decide)
      have h3' := h2'.old' o3
      have fx := h2'.known_xs hf
      refine A_nil ?_
      refine (fn_chain T h3' (by omega) hi' ef fx (by omega) (fun x hx => hwc x (hfw x hx)) fun l st4 σ4 o4 h4' hi4 hx4 hlo => ?_).up (by decide)
      have eq4 : σ4 q = some (.list (dats (t.map strE))) := o4 q _ qx (o3 q _ (by simp) eq2)
      have es4 : σ4 s = some (.dI (kvPut kvs x (.bool true))) := o4 s _ sx (o3 s _ (by simp) es2)
      have ep4 : σ4 p = some (.list (nV w)) := o4 p _ hp (o3 p _ (by simp) ep2)
      refine A_nil ⟨[.int x, .int l], rfl, by simp [PyData.depth, PyData.depthAll], by simp, ?_⟩
      have o5 : OldX (q :: s :: b.xs) σ σ4 := (o2.trans o3.x).trans (o4.mono (by intro z hz; simp [hz]))
      have oq : OldX [q, s] σ4 (upd σ4 q (.list (dats (t.map strE) ++ [V.tup [.int x, .int l]]))) := (OldX.refl _ _).put (by simp)
      refine ⟨_, eq4, by simp; omega, rfl, X_nil (X_nil (ln _ _ _ ⟨?_, by walk_at "sub", o5.put (by simp), t ++ [(x, l)], st4, (kvPut kvs x (.bool true)), ?_, ?_, ?_, (h4'.oldX oq hXX hX0).mono (by omega), hi4, hx.trans hx4, ⟨?_⟩, by simp; omega⟩))⟩
      · rw [upd_other pq]; exact ep4
      · rw [upd_same]; simp [dats, strE]
      · rw [upd_other nqs.symm]; exact es4
      · have := kvPut_len (l := kvs) (k := x) (v := .bool true); omega
      · intro e he
        rcases List.mem_append.mp he with he | he
        · obtain ⟨a1, a2⟩ := ht.ok e he; exact ⟨a1, hx4.lok a2⟩
        · obtain rfl := List.mem_singleton.mp he; exact ⟨hkey, hlo⟩
    · refine E_ti 0 (by rfl) (by rfl) (by decide) (by rfl) ?_
      refine E_var (v := .str "struct") (by rfl) ?_
      exact op_eq rfl rfl ⟨_, rfl, fun h1 => absurd (dt h1) (sne (by decide)), fun h1 => ⟨fun q => (by cases q), fun _ => X_nil (X_nil (ln _ _ _ ⟨hpp, by walk_at "sub", skip⟩))⟩⟩

  · rintro σ' ⟨o, t, st', kvs, eq', es', lkv, h', hi', hx, ht, hlt⟩ hpp
    rw [List.length_map] at *
    refine X_ret ?_
    walk_at "blt"
    walk_at "a"
    refine cv_tuple (.inl eq') rfl (by simp; omega) ?_ ?_
    · refine depthAll_of fun d hd => ?_
      obtain ⟨e, _, rfl⟩ := List.mem_map.mp hd
      simp [strE, PyData.depth, PyData.depthAll]
    · refine hP t st' σ' ?_ (h'.mono (by omega)) hi' hx ht (by omega)
      intro z y hz e
      by_cases hzq : z = q
      · subst hzq; rw [hq] at e; cases e
      · by_cases hzs : z = s
        · subst hzs; rw [hs0] at e; cases e
        · exact o z y (by simp [hzq, hzs, hz]) e
end
noncomputable def crow (ar : Int) (ls : List Int) : List Row := .tri ((ls[0]?).getD 0) ar :: (((ls.drop 1).take (ls.length - 2)).map Row.retry ++ [.trust ((ls[ls.length - 1]?).getD 0)])
noncomputable def IdxV (σ : AH) (v : V) (ls : List Int) : Prop := v = .tup (ls.map PyData.int) ∨ ∃ p, v = .obj p ∧ σ p = some (.list (iV ls))
theorem IdxV.old {σ σ' : AH} {v : V} {ls : List Int} (h : IdxV σ v ls) (k : Old σ σ') : IdxV σ' v ls := by
  rcases h with h | ⟨p, h, e⟩
  · exact .inl h
  · exact .inr ⟨p, h, k _ _ (by simp) e⟩

theorem rng_get2 {x y : Int} {i : Nat} {v : V} (h : (rngItems x y)[i]? = some v) : i < (y - x).toNat ∧ v = .int (x + (i : Int)) := by
  unfold rngItems at h
  rw [List.getElem?_map] at h
  rcases Nat.lt_or_ge i (y - x).toNat with q | q
  · rw [List.getElem?_range q] at h
    simp at h
    exact ⟨q, h.symm⟩
  · rw [List.getElem?_eq_none (by simpa using q)] at h; cases h
theorem rng_len2 {x y : Int} : (rngItems x y).length = (y - x).toNat := by simp [rngItems]

section
variable {C : Cx} {n : Nat} {env : Env} {m : Vars} {σ σ0 : AH} {P : V → AH → Prop} {b : Bld} {ar : Int} {k : Nat} {st : BSt}

theorem IdxV.len {v : V} {ls : List Int} (h : IdxV σ v ls) (hl : ls.length ≤ 1000) (hP : P (.int (ls.length : Int)) σ) : CallV C n (.builtin "len") [v] σ P := by
  rcases h with rfl | ⟨p, rfl, e⟩
  · exact cv_len_tup (by simp; omega) (by rw [List.length_map]; exact hP)
  · exact cv_len e (by simp; omega) (by rw [List.length_map]; exact hP)
theorem IdxV.item {v : V} {ls : List Int} {i : Nat} {x : Int} {value slice : Expr} (h : IdxV σ v ls) (hi : ls[i]? = some x) (hl : i < 1000000) (hP : P (.int x) σ) (hs : isSl slice = false) : Op2 C n (subscriptTail value slice) v (.int (i : Int)) σ P := by
  rcases h with rfl | ⟨p, rfl, e⟩
  · exact op_item_tup hl (by rw [List.getElem?_map, hi]; rfl) hP hs
  · exact op_item_list e hl (by rw [List.getElem?_map, hi]; rfl) hP hs

theorem fn_chain_rows (T : Tx C) {v : V} {ls : List Int} (h : BOk σ0 b ar k st σ) (hv : IdxV σ v ls) (h2 : 2 ≤ ls.length) (hl : ls.length ≤ 100)
    (hP : ∀ a σ', Old σ σ' → σ a = none → σ' a = some (.list (dats ((crow ar ls).map Row.d))) → P (.obj a) σ') : Fn C 2 224 [.obj b.a, v] σ P := by
  walk_at "fn"
  intro env hs hcl
  obtain ⟨x0, hx0, _⟩ := drop_head (show 0 < ls.length by omega)
  obtain ⟨xl, hxl, _⟩ := drop_head (show ls.length - 1 < ls.length by omega)
  obtain ⟨fs, i, hfl, hb⟩ := h.inst
  refine X_assign (by walk_at "sto") ?_
  refine E_list T.ok ?_
  refine A_cons ?_
  refine E_tuple ?_
  refine A_cons ?_
  walk_at "v"
  refine A_cons ?_
  refine E_sub ?_
  refine E_var (v := v) (by rfl) ?_
  walk_at "v"
  refine hv.item (i := 0) hx0 (by decide) ?_ (by rfl)
  refine A_cons ?_
  refine E_va T (by rfl) i hb.ar (by rfl) (by rfl) ?_
  refine A_nil ⟨[.str "try", .int x0, .int ar], rfl, by simp [PyData.depth, PyData.depthAll], by simp, ?_⟩
  refine A_nil ⟨by simp, fun a ha => ?_⟩
  have oa : Old σ (upd σ a (.list [V.tup [.str "try", .int x0, .int ar]])) := (OldX.refl _ _).new ha
  refine X_assign (by walk_at "sto") ?_
  refine E_bin ?_
  walk_at "blt"
  refine A_cons ?_
  refine E_var (v := v) (by rfl) ?_
  refine A_nil ?_
  refine (hv.old oa).len (by omega) ?_
  walk_at "v"
  refine op_sub ?_
  refine X_forI (fun j σ' => OldX [a] σ σ' ∧ σ' a = some (.list (dats ((Row.tri x0 ar :: ((ls.drop 1).take j).map Row.retry).map Row.d)))) [("last", .int ((ls.length : Int) - 1)), ("rows", .obj a), ("labels", v)] (by walk_at "sto") ?_
  walk_at "blt"
  walk_at "a"
  refine cv_range2 T.ok fun r hr => ?_
  refine ⟨_, _, src_rng (upd_same _ _ _) (by decide) (by decide) (by omega) (by omega), trivial, by walk_at "sub", ⟨((OldX.refl [a] _).new ha).new hr, by rw [upd_old hr (upd_same _ _ _)]; rfl⟩, ?_, ?_⟩
  · rintro j u σ' hu ⟨o, ea⟩ _
    refine Ex.gen fun PL ln => ?_
    obtain ⟨hj, rfl⟩ := rng_get2 hu
    have hj' : 1 + j < ls.length := by omega
    obtain ⟨x, hx, _⟩ := drop_head hj'
    have oo : Old σ σ' := o.old (by intro z hz; rw [List.mem_singleton.mp hz]; exact ha)
    refine X_expr ?_
    refine E_append T.ok ?_
    walk_at "v"
    refine ⟨a, rfl, ⟨_, ea⟩, ?_⟩
    refine E_tuple ?_
    refine A_cons ?_
    walk_at "v"
    refine A_cons ?_
    refine E_sub ?_
    refine E_var (v := v) (by rfl) ?_
    refine E_var (v := .int (1 + (j : Int))) (by rfl) ?_
    have : (1 + (j : Int)) = ((1 + j : Nat) : Int) := by omega
    rw [this]
    refine (hv.old oo).item hx (by omega) ?_ (by rfl)
    refine A_nil ⟨[.str "retry", .int x], rfl, by simp [PyData.depth, PyData.depthAll], by simp, ?_⟩
    refine ⟨_, ea, by simp; omega, rfl, X_nil (ln _ _ _ ⟨trivial, by walk_at "sub", o.put (by simp), ?_⟩)⟩
    have hx' : (ls.drop 1)[j]? = some x := by rw [List.getElem?_drop]; exact hx
    rw [upd_same, take_succ hx']
    simp [dats, Row.d, Row.l]
  · rintro σ' ⟨o, ea⟩ _
    rw [rng_len2] at ea
    have hj : ((ls.length : Int) - 1 - 1).toNat = ls.length - 2 := by omega
    rw [hj] at ea
    have oo : Old σ σ' := o.old (by intro z hz; rw [List.mem_singleton.mp hz]; exact ha)
    refine X_expr ?_
    refine E_append T.ok ?_
    walk_at "v"
    refine ⟨a, rfl, ⟨_, ea⟩, ?_⟩
    refine E_tuple ?_
    refine A_cons ?_
    walk_at "v"
    refine A_cons ?_
    refine E_sub ?_
    refine E_var (v := v) (by rfl) ?_
    refine E_var (v := .int ((ls.length : Int) - 1)) (by rfl) ?_
    have : ((ls.length : Int) - 1) = ((ls.length - 1 : Nat) : Int) := by omega
    rw [this]
    refine (hv.old oo).item hxl (by omega) ?_ (by rfl)
    refine A_nil ⟨[.str "trust", .int xl], rfl, by simp [PyData.depth, PyData.depthAll], by simp, ?_⟩
    refine ⟨_, ea, by simp; omega, rfl, ?_⟩
    refine X_ret ?_
    walk_at "v"
    refine hP a _ (OldX.old (o.put (by simp)) (by intro z hz; rw [List.mem_singleton.mp hz]; exact ha)) ha ?_
    rw [upd_same]
    simp [dats, crow, hx0, hxl, Row.d, Row.l]

/-- self.rows.append(row) -/
theorem X_brow (T : Tx C) {PO : Out → Vars → AH → Prop} {rest : List Stmt} {x : Str} {px p1 apos p2 p3 : Pos} {e : Expr} {r : Row} (hx : m.lookup x = some (.obj b.a)) (h : BOk σ0 b ar k st σ) (hk : k ≤ 90000)
    (hv : ∀ Q : V → AH → Prop, Q (.dat r.d) σ → Ev C n env m e σ Q)
    (hP : BOk σ0 b ar (k + 1) { st with rows := st.rows ++ [r] } (upd σ b.ro (.list (dats (st.rows.map Row.d) ++ [.dat r.d]))) → OldX b.xs σ (upd σ b.ro (.list (dats (st.rows.map Row.d) ++ [.dat r.d]))) → Ex C n env m rest (upd σ b.ro (.list (dats (st.rows.map Row.d) ++ [.dat r.d]))) PO)
    (hline : (apos.endLine == p2.line) = true := by rfl) (hst : isStar e = false := by rfl) :
    Ex C n env m (.Expr (.Call (.Attribute (.Attribute (.Name x px) "rows" p1) "append" apos) [e] [] p2) p3 :: rest) σ PO := by
  obtain ⟨fs, i, hfl, hb⟩ := h.inst
  have hr := h.rows
  refine X_expr ?_
  refine E_append T.ok ?_ (by rfl) hline hst
  refine E_va T hx i hb.ro (by rfl) (by rfl) ?_
  refine ⟨_, rfl, ⟨_, hr.1⟩, hv _ ?_⟩
  exact ⟨_, hr.1, by simp; omega, rfl, hP h.putRows ((OldX.refl _ _).put (by simp [Bld.xs]))⟩
end
noncomputable def secC (cl d : Int) (t : List (Int × Int × Int)) : List Row := if t = [] then [] else [.lab cl, .con t d]
noncomputable def secS (sl d : Int) (s : List (Int × Int)) : List Row := if s = [] then [] else [.lab sl, .str s d]
theorem LOk.jump {cnt : Nat} {ch : List (Int × List Nat)} {S : Nat → List Row → Prop} {rest : List Row} {l : Int} (h : LOk cnt ch l) : Jump (XL cnt ch) S 4 rest l := by
  refine ⟨by decide, ?_⟩
  rcases h with h | h
  · exact .inl h
  · exact .inr (.inl h)
/-- a label that is free yet -/
structure Fr1 (cnt : Nat) (l : Int) (st : BSt) : Prop where
  ge : (cnt : Int) ≤ l
  lt : l < st.next
  no : l ∉ st.chains.map (·.1)
theorem Fr1.ext {cnt : Nat} {l : Int} {a b : BSt} (h : Fr1 cnt l a) (k : Ext a b) : Fr1 cnt l b := by
  obtain ⟨_, ⟨nw, e, q⟩, nx⟩ := k
  have h2 := h.lt
  refine ⟨h.ge, by omega, ?_⟩
  rw [e, List.map_append]
  intro hm
  rcases List.mem_append.mp hm with hm | hm
  · exact h.no hm
  · obtain ⟨p, hp, rfl⟩ := List.mem_map.mp hm
    have := q p hp; omega
theorem BInv.fresh {cnt : Nat} {st : BSt} (h : BInv cnt st) : BInv cnt { st with next := st.next + 1 } := by
  have := h.nx
  refine ⟨fun p hp => ?_, fun l hl => ?_, h.nodup, by dsimp only; omega, h.tab⟩
  · obtain ⟨a, b, c⟩ := h.ch p hp; exact ⟨a, by dsimp only; omega, c⟩
  · have := h.lab l hl; dsimp only; omega
theorem Fr1.fresh {cnt : Nat} {st : BSt} (h : BInv cnt st) : Fr1 cnt st.next { st with next := st.next + 1 } := by
  refine ⟨h.nx, by dsimp only; omega, ?_⟩
  intro hm
  obtain ⟨p, hp, e⟩ := List.mem_map.mp hm
  have := (h.ch p hp).2.1
  omega
theorem Ext.fresh {st : BSt} : Ext st { st with next := st.next + 1 } := ⟨rfl, ⟨[], by simp, by simp⟩, by dsimp only; omega⟩

theorem sec_safe {cnt : Nat} {ks : List PyData} {ch : List (Int × List Nat)} {vl cl ll sl d : Int} {t : List (Int × Int × Int)} {s : List (Int × Int)} (hv : LOk cnt ch vl) (hl : LOk cnt ch ll) (hd : LOk cnt ch d)
    (ht : ∀ e ∈ t, kConst e.1 e.2.1 ∈ ks ∧ LOk cnt ch e.2.2) (hs : ∀ e ∈ s, kStruct e.1 ∈ ks ∧ LOk cnt ch e.2) (hc : (t = [] ∧ cl = d) ∨ (t ≠ [] ∧ (cnt : Int) ≤ cl)) (hS : (s = [] ∧ sl = d) ∨ (s ≠ [] ∧ (cnt : Int) ≤ sl)) (kd : Kd) :
    Safe (XL cnt ch) cnt ks kd 4 (.term vl cl ll sl :: (secC cl d t ++ secS sl d s)) := by
  refine Safe.intro ?_
  show Jump _ _ 4 _ (pickL kd vl cl ll sl)
  cases kd with
  | var => exact hv.jump
  | list => exact hl.jump
  | const =>
    rcases hc with ⟨rfl, rfl⟩ | ⟨hne, hge⟩
    · exact hd.jump
    · refine ⟨by decide, .inr (.inr ⟨[], .con t d :: secS sl d s, by simp [secC, hne, pickL], ?_⟩)⟩
      refine Safe.intro ⟨by decide, .inr ⟨hge, Safe.intro ⟨rfl, fun e he => ⟨(ht e he).1, (ht e he).2.jump⟩, hd.jump⟩⟩⟩
  | struct =>
    rcases hS with ⟨rfl, rfl⟩ | ⟨hne, hge⟩
    · exact hd.jump
    · refine ⟨by decide, .inr (.inr ⟨secC cl d t, [.str s d], by simp [secS, hne, pickL], ?_⟩)⟩
      refine Safe.intro ⟨by decide, .inr ⟨hge, Safe.intro ⟨rfl, fun e he => ⟨(hs e he).1, (hs e he).2.jump⟩, hd.jump⟩⟩⟩

structure SwExt (cnt : Nat) (ks : List PyData) (st st' : BSt) : Prop where
  nx : st.next ≤ st'.next
  ch : ∃ nw, st'.chains = st.chains ++ nw ∧ ∀ p ∈ nw, st.next ≤ p.1
  sec : ∃ sec, st'.rows = st.rows ++ sec ∧ sec.length ≤ 5 ∧ (∀ l ∈ labs sec, st.next ≤ l) ∧ ∀ kd, Safe (XL cnt st'.chains) cnt ks kd 4 sec

theorem depth_con (t : List (Int × Int × Int)) : PyData.depthAll (t.map conE) ≤ 5 := depthAll_of fun d hd => by
  obtain ⟨e, _, rfl⟩ := List.mem_map.mp hd
  simp [conE, PyData.depth, PyData.depthAll]
theorem depth_str (t : List (Int × Int)) : PyData.depthAll (t.map strE) ≤ 5 := depthAll_of fun d hd => by
  obtain ⟨e, _, rfl⟩ := List.mem_map.mp hd
  simp [strE, PyData.depth, PyData.depthAll]
theorem Ext.sw {cnt : Nat} {st st7 st9 : BSt} {ks : List PyData} {sec : List Row} (x : Ext st st7) (e1 : st9.rows = st7.rows ++ sec) (e2 : st9.chains = st7.chains) (e3 : st9.next = st7.next) (h1 : sec.length ≤ 5) (h2 : ∀ l ∈ labs sec, st.next ≤ l) (h3 : ∀ kd, Safe (XL cnt st7.chains) cnt ks kd 4 sec) : SwExt cnt ks st st9 := by
  obtain ⟨xr, xc, xn⟩ := x
  exact ⟨by rw [e3]; exact xn, by rw [e2]; exact xc, sec, by rw [e1, xr], h1, h2, by rw [e2]; exact h3⟩

theorem BInv.sec {cnt : Nat} {st : BSt} {sec : List Row} (h : BInv cnt st) (h1 : ∀ l ∈ labs sec, Fr1 cnt l st ∧ l ∉ labs st.rows) (h2 : (labs sec).Nodup) (h3 : ∀ r ∈ sec, r.tl ≤ 8) : BInv cnt { st with rows := st.rows ++ sec } := by
  refine ⟨h.ch, ?_, ?_, h.nx, fun r hr => (List.mem_append.mp hr).elim (h.tab r) (h3 r)⟩
  · intro l hl
    dsimp only at hl
    rw [labs_app] at hl
    rcases List.mem_append.mp hl with hl | hl
    · exact h.lab l hl
    · exact ⟨(h1 l hl).1.ge, (h1 l hl).1.lt⟩
  · dsimp only
    rw [labs_app]
    obtain ⟨n1, n2, n3⟩ := List.nodup_append.mp h.nodup
    refine List.nodup_append.mpr ⟨List.nodup_append.mpr ⟨n1, h2, ?_⟩, n2, ?_⟩
    · intro x hx y hy e
      subst e
      exact (h1 x hy).2 hx
    · intro x hx y hy e
      subst e
      rcases List.mem_append.mp hx with hx | hx
      · exact n3 x hx x hy rfl
      · exact (h1 x hx).1.no hy
theorem labs_secC {cl d : Int} {t : List (Int × Int × Int)} : labs (secC cl d t) = if t = [] then [] else [cl] := by unfold secC; split <;> rfl
theorem labs_secS {sl d : Int} {s : List (Int × Int)} : labs (secS sl d s) = if s = [] then [] else [sl] := by unfold secS; split <;> rfl

section
variable {C : Cx} {n : Nat} {env : Env} {m : Vars} {σ σ0 : AH} {P : V → AH → Prop} {b : Bld} {ar : Int} {k : Nat} {st : BSt}

theorem fn_switch (T : Tx C) {cnt : Nat} {p : Addr} {w : List Nat} (hcnt : b.cs.length = cnt) (h : BOk σ0 b ar k st σ) (hk : k ≤ 500) (hi : BInv cnt st) (hw : σ p = some (.list (nV w))) (hp : p ∉ b.xs) (hwl : w.length ≤ 4) (hwc : ∀ i ∈ w, i < cnt)
    (hP : ∀ st' σ', OldX b.xs σ σ' → BOk σ0 b ar (k + 40) st' σ' → BInv cnt st' → SwExt cnt (keysOf b.cs) st st' → P .none σ') : Fn C 4 259 [.obj b.a, .obj p] σ P := by
  walk_at "fn"
  intro env hs hcl
  have hwc' : ∀ i ∈ w, i < b.cs.length := fun i hi => by rw [hcnt]; exact hwc i hi
  -- the default
  obtain ⟨fs, i, hfl, hb⟩ := h.inst
  refine X_assign (by walk_at "sto") ?_
  refine E_vm T (by rfl) i (hb.no _ (by decide)) (by rfl) (by rfl) (by rfl) ?_
  refine A_cons ?_
  refine E_vm T (by rfl) i (hb.no _ (by decide)) (by rfl) (by rfl) (by rfl) ?_
  walk_at "a"
  refine (fn_var_places T h hw (by omega) hwc' fun f wf σ1 o1 hf ef hfw hfl => ?_).up (by decide)
  have h1 := h.old' o1
  refine A_nil ?_
  refine (fn_chain T h1 (by omega) hi ef (h.known_xs hf) (by omega) (fun x hx => hwc x (hfw x hx)) fun d st1 σ2 o2 h2 hi2 x2 hd => ?_).up (by decide)
  have oo2 : OldX b.xs σ σ2 := o1.x.trans o2
  have ep2 : σ2 p = some (.list (nV w)) := oo2 p _ hp hw
  clear o1 o2 ef hf h1 i hb
  -- the tables
  obtain ⟨fs, i, hfl', hb⟩ := h2.inst
  refine X_assign (by walk_at "sto") ?_
  refine E_vm T (by rfl) i (hb.no _ (by decide)) (by rfl) (by rfl) (by rfl) ?_
  walk_at "a"
  refine (fn_tableC T hcnt h2 (by omega) hi2 ep2 hp hwl hwc fun t st2 σ3 o3 h3 hi3 x3 ht htl => ?_).up (by decide)
  have oo3 := oo2.trans o3
  have ep3 : σ3 p = some (.list (nV w)) := oo3 p _ hp hw
  clear i hb
  obtain ⟨fs, i, hfl', hb⟩ := h3.inst
  refine X_assign (by walk_at "sto") ?_
  refine E_vm T (by rfl) i (hb.no _ (by decide)) (by rfl) (by rfl) (by rfl) ?_
  walk_at "a"
  refine (fn_tableS T hcnt h3 (by omega) hi3 ep3 hp hwl hwc fun s st3 σ4 o4 h4 hi4 x4 hss hsl => ?_).up (by decide)
  have oo4 := oo3.trans o4
  have ep4 : σ4 p = some (.list (nV w)) := oo4 p _ hp hw
  clear i hb
  have x04 := (x2.trans x3).trans x4
  refine X_assign (by walk_at "sto") ?_
  walk_at "v"
  refine X_assign (by walk_at "sto") ?_
  walk_at "v"
  -- the labels
  refine X_ifJ (ι := Int × BSt) (fun i σ' => OldX b.xs σ σ' ∧ BOk σ0 b ar (k + 20) i.2 σ' ∧ BInv cnt i.2 ∧ Ext st3 i.2 ∧ ((t = [] ∧ i.1 = d) ∨ (t ≠ [] ∧ Fr1 cnt i.1 i.2 ∧ st.next ≤ i.1)))
    (fun i => [("const_label", .int i.1), ("struct_label", .int d), ("structures", .tup (s.map strE)), ("constants", .tup (t.map conE)), ("default", .int d), ("self", .obj b.a), ("places", .obj p)]) ?_ ?_
  · refine fun PJ jn jo => ?_
    refine T_cmp ?_
    walk_at "blt"
    walk_at "a"
    refine cv_len_tup (by simp; omega) ?_
    walk_at "v"
    refine op_gt ⟨_, rfl, fun q => ?_, fun q => ?_⟩
    · have q := dt q
      obtain ⟨fs, i, hfl', hb⟩ := h4.inst
      refine X_assign (by walk_at "sto") ?_
      refine E_vm T (by rfl) i (hb.no _ (by decide)) (by rfl) (by rfl) (by rfl) ?_
      refine A_nil ?_
      refine (fn_fresh T h4 (by omega) fun σ5 o5 h5 => ?_).up (by decide)
      have hx4 := x04.nx
      refine X_nil (jn (st3.next, { st3 with next := st3.next + 1 }) _ _ (by walk_at "sub") ⟨oo4.trans (o5.mono (by intro z hz; rw [List.mem_singleton.mp hz]; simp [Bld.xs])), h5.mono (by omega), hi4.fresh, Ext.fresh, .inr ⟨?_, Fr1.fresh hi4, hx4⟩⟩)
      rintro rfl; simp at q
    · have q := df q
      refine X_nil (jn (d, st3) _ _ (by walk_at "sub") ⟨oo4, h4.mono (by omega), hi4, Ext.refl _, .inl ⟨?_, rfl⟩⟩)
      cases t with
      | nil => rfl
      | cons a r => simp at q
  rintro ⟨cl, st4⟩ σ5 ⟨oo5, h5, hi5, x5, hcl'⟩
  dsimp only at h5 hi5 x5 hcl'
  refine X_ifJ (ι := Int × BSt) (fun i σ' => OldX b.xs σ σ' ∧ BOk σ0 b ar (k + 21) i.2 σ' ∧ BInv cnt i.2 ∧ Ext st4 i.2 ∧ ((s = [] ∧ i.1 = d) ∨ (s ≠ [] ∧ Fr1 cnt i.1 i.2 ∧ st.next ≤ i.1 ∧ st4.next ≤ i.1)))
    (fun i => [("const_label", .int cl), ("struct_label", .int i.1), ("structures", .tup (s.map strE)), ("constants", .tup (t.map conE)), ("default", .int d), ("self", .obj b.a), ("places", .obj p)]) ?_ ?_
  · refine fun PJ jn jo => ?_
    refine T_cmp ?_
    walk_at "blt"
    walk_at "a"
    refine cv_len_tup (by simp; omega) ?_
    walk_at "v"
    refine op_gt ⟨_, rfl, fun q => ?_, fun q => ?_⟩
    · have q := dt q
      obtain ⟨fs, i, hfl', hb⟩ := h5.inst
      refine X_assign (by walk_at "sto") ?_
      refine E_vm T (by rfl) i (hb.no _ (by decide)) (by rfl) (by rfl) (by rfl) ?_
      refine A_nil ?_
      refine (fn_fresh T h5 (by omega) fun σ6 o6 h6 => ?_).up (by decide)
      have hx4 := (x04.trans x5).nx
      refine X_nil (jn (st4.next, { st4 with next := st4.next + 1 }) _ _ (by walk_at "sub") ⟨oo5.trans (o6.mono (by intro z hz; rw [List.mem_singleton.mp hz]; simp [Bld.xs])), h6.mono (by omega), hi5.fresh, Ext.fresh, .inr ⟨?_, Fr1.fresh hi5, hx4, Int.le_refl _⟩⟩)
      rintro rfl; simp at q
    · have q := df q
      refine X_nil (jn (d, st4) _ _ (by walk_at "sub") ⟨oo5, h5.mono (by omega), hi5, Ext.refl _, .inl ⟨?_, rfl⟩⟩)
      cases s with
      | nil => rfl
      | cons a r => simp at q
  rintro ⟨sl, st5⟩ σ6 ⟨oo6, h6, hi6, x6, hsl'⟩
  dsimp only at h6 hi6 x6 hsl'
  have ep6 : σ6 p = some (.list (nV w)) := oo6 p _ hp hw
  -- the list's chain
  obtain ⟨fs, i, hfl', hb⟩ := h6.inst
  refine X_assign (by walk_at "sto") ?_
  refine E_vm T (by rfl) i (hb.no _ (by decide)) (by rfl) (by rfl) (by rfl) ?_
  refine A_cons ?_
  refine E_vm T (by rfl) i (hb.no _ (by decide)) (by rfl) (by rfl) (by rfl) ?_
  walk_at "a"
  refine (fn_match_places T h6 ep6 (by omega) hwc' (by rfl) fun f wf σ7 o7 hf ef hfw hfl => ?_).up (by decide)
  have h7 := h6.old' o7
  refine A_nil ?_
  refine (fn_chain T h7 (by omega) hi6 ef (h6.known_xs hf) (by omega) (fun x hx => hwc x (hfw x hx)) fun ll st6 σ8 o8 h8 hi8 x8 hll => ?_).up (by decide)
  have oo8 : OldX b.xs σ σ8 := (oo6.trans o7.x).trans o8
  have ep8 : σ8 p = some (.list (nV w)) := oo8 p _ hp hw
  clear i hb
  -- the row of the terms
  obtain ⟨fs, i, hfl', hb⟩ := h8.inst
  refine X_expr ?_
  refine E_append T.ok ?_
  refine E_va T (by rfl) i hb.ro (by rfl) (by rfl) ?_
  refine ⟨_, rfl, ⟨_, h8.rows.1⟩, ?_⟩
  refine E_tuple ?_
  refine A_cons ?_
  walk_at "v"
  refine A_cons ?_
  refine E_vm T (by rfl) i (hb.no _ (by decide)) (by rfl) (by rfl) (by rfl) ?_
  walk_at "a"
  refine (fn_chain T h8 (by omega) hi8 ep8 hp hwl hwc fun vl st7 σ9 o9 h9 hi9 x9 hvl => ?_).up (by decide)
  walk_at "a"
  refine ⟨[.str "switch_on_term", .int vl, .int cl, .int ll, .int sl], rfl, by simp [PyData.depth, PyData.depthAll], by simp, ?_⟩
  have oo9 := oo8.trans o9
  have h10 := h9.putRows (r := .term vl cl ll sl)
  have oo10 := oo9.trans ((OldX.refl b.xs σ9).put (a := b.ro) (x := .list (dats (st7.rows.map Row.d) ++ [.dat (Row.term vl cl ll sl).d])) (by simp [Bld.xs]))
  have hrl := h9.rows.2
  refine ⟨_, h9.rows.1, by simp; omega, rfl, ?_⟩
  show Ex C 3 env _ _ (upd σ9 b.ro (.list (dats (st7.rows.map Row.d) ++ [.dat (Row.term vl cl ll sl).d]))) _
  generalize upd σ9 b.ro (.list (dats (st7.rows.map Row.d) ++ [.dat (Row.term vl cl ll sl).d])) = σ10 at *
  have xAll : Ext st st7 := ((((x04.trans x5).trans x6).trans x8).trans x9)
  have hd7 := (((((x3.trans x4).trans x5).trans x6).trans x8).trans x9).lok hd
  have hsafe := fun kd => sec_safe (ks := keysOf b.cs) (cl := cl) (sl := sl) (t := t) (s := s) hvl (x9.lok hll) hd7
    (fun e he => ⟨(ht.ok e he).1, ((((x4.trans x5).trans x6).trans x8).trans x9).lok (ht.ok e he).2⟩) (fun e he => ⟨(hss.ok e he).1, (((x5.trans x6).trans x8).trans x9).lok (hss.ok e he).2⟩)
    (hcl'.imp id fun q => ⟨q.1, q.2.1.ge⟩) (hsl'.imp id fun q => ⟨q.1, q.2.1.ge⟩) kd
  have fcl : t ≠ [] → Fr1 cnt cl st7 := fun q => by
    rcases hcl' with r | r
    · exact absurd r.1 q
    · exact ((r.2.1.ext x6).ext x8).ext x9
  have fsl : s ≠ [] → Fr1 cnt sl st7 := fun q => by
    rcases hsl' with r | r
    · exact absurd r.1 q
    · exact (r.2.1.ext x8).ext x9
  have hlb : ∀ l ∈ labs (Row.term vl cl ll sl :: (secC cl d t ++ secS sl d s)), (Fr1 cnt l st7 ∧ l ∉ labs st7.rows) ∧ st.next ≤ l := by
    intro l hl
    have hl : l ∈ labs (secC cl d t ++ secS sl d s) := hl
    rw [labs_app, labs_secC, labs_secS] at hl
    have old : ∀ l, st.next ≤ l → l ∉ labs st7.rows := fun l hl hm => by
      rw [xAll.rows] at hm; have := (hi.lab l hm).2; omega
    rcases List.mem_append.mp hl with hl | hl
    · split at hl
      · cases hl
      · rename_i ht0
        obtain rfl := List.mem_singleton.mp hl
        rcases hcl' with r | r
        · exact absurd r.1 ht0
        · exact ⟨⟨fcl ht0, old _ r.2.2⟩, r.2.2⟩
    · split at hl
      · cases hl
      · rename_i hs0
        obtain rfl := List.mem_singleton.mp hl
        rcases hsl' with r | r
        · exact absurd r.1 hs0
        · exact ⟨⟨fsl hs0, old _ r.2.2.1⟩, r.2.2.1⟩
  have hnd : (labs (Row.term vl cl ll sl :: (secC cl d t ++ secS sl d s))).Nodup := by
    show (labs (secC cl d t ++ secS sl d s)).Nodup
    rw [labs_app, labs_secC, labs_secS]
    split
    · split <;> simp
    · rename_i ht0
      split
      · simp
      · rename_i hs0
        rcases hcl' with r | r
        · exact absurd r.1 ht0
        · rcases hsl' with r2 | r2
          · exact absurd r2.1 hs0
          · have h1 := r.2.1.lt
            have h2 := r2.2.2.2
            simp; omega
  have hInv := hi9.sec (fun l hl => (hlb l hl).1) hnd (fun r hr => by
    rcases List.mem_cons.mp hr with rfl | hr
    · exact Nat.zero_le _
    · rcases List.mem_append.mp hr with hr | hr
      · unfold secC at hr
        split at hr
        · cases hr
        · simp only [List.mem_cons, List.not_mem_nil, or_false] at hr
          rcases hr with rfl | rfl <;> simp only [Row.tl] <;> omega
      · unfold secS at hr
        split at hr
        · cases hr
        · simp only [List.mem_cons, List.not_mem_nil, or_false] at hr
          rcases hr with rfl | rfl <;> simp only [Row.tl] <;> omega)
  have hlen : (Row.term vl cl ll sl :: (secC cl d t ++ secS sl d s)).length ≤ 5 := by
    unfold secC secS; split <;> split <;> simp
  -- the tables' rows
  have lokI : ∀ {l : Int}, l = l := rfl
  refine X_ifJ (ι := Unit) (fun _ σ' => OldX b.xs σ σ' ∧ BOk σ0 b ar (k + 30) { st7 with rows := st7.rows ++ [.term vl cl ll sl] ++ secC cl d t } σ')
    (fun _ => [("struct_label", .int sl), ("structures", .tup (s.map strE)), ("default", .int d), ("self", .obj b.a)]) ?_ ?_
  · refine fun PJ jn jo => ?_
    refine T_cmp ?_
    walk_at "blt"
    walk_at "a"
    refine cv_len_tup (by simp; omega) ?_
    walk_at "v"
    refine op_gt ⟨_, rfl, fun q => ?_, fun q => ?_⟩
    · have q := dt q
      have hne : t ≠ [] := by rintro rfl; simp at q
      refine X_brow T (r := .lab cl) (by rfl) (h10.mono (m' := k + 26) (by omega)) (by omega) (fun Q hQ => ?_) fun h11 o11 => ?_
      · refine E_tuple ?_
        walk_at "a"
        exact ⟨[.str "label", .int cl], rfl, by simp [PyData.depth, PyData.depthAll], by simp, hQ⟩
      refine X_brow T (r := .con t d) (by rfl) h11 (by omega) (fun Q hQ => ?_) fun h12 o12 => ?_
      · refine E_tuple ?_
        walk_at "a"
        have hdc := depth_con t
        exact ⟨[.str "switch_on_constant", .tuple (t.map conE), .int d], rfl, by simp only [PyData.depth, PyData.depthAll]; omega, by simp, hQ⟩
      refine X_nil (jn () _ _ (by walk_at "sub") ⟨(oo10.trans o11).trans o12, ?_⟩)
      have : st7.rows ++ [Row.term vl cl ll sl] ++ secC cl d t = st7.rows ++ [Row.term vl cl ll sl] ++ [.lab cl] ++ [.con t d] := by simp [secC, hne]
      rw [this]
      exact h12.mono (by omega)
    · have q := df q
      have hne : t = [] := by
        cases t with
        | nil => rfl
        | cons a r => simp at q
      refine X_nil (jn () _ _ (by walk_at "sub") ⟨oo10, ?_⟩)
      have : st7.rows ++ [Row.term vl cl ll sl] ++ secC cl d t = st7.rows ++ [Row.term vl cl ll sl] := by simp [secC, hne]
      rw [this]
      exact h10.mono (by omega)
  rintro _ σ11 ⟨oo11, h11⟩
  refine X_ifJ (ι := Unit) (fun _ σ' => OldX b.xs σ σ' ∧ BOk σ0 b ar (k + 40) { st7 with rows := st7.rows ++ (Row.term vl cl ll sl :: (secC cl d t ++ secS sl d s)) } σ')
    (fun _ => []) ?_ ?_
  · refine fun PJ jn jo => ?_
    refine T_cmp ?_
    walk_at "blt"
    walk_at "a"
    refine cv_len_tup (by simp; omega) ?_
    walk_at "v"
    refine op_gt ⟨_, rfl, fun q => ?_, fun q => ?_⟩
    · have q := dt q
      have hne : s ≠ [] := by rintro rfl; simp at q
      refine X_brow T (r := .lab sl) (by rfl) h11 (by omega) (fun Q hQ => ?_) fun h12 o12 => ?_
      · refine E_tuple ?_
        walk_at "a"
        exact ⟨[.str "label", .int sl], rfl, by simp [PyData.depth, PyData.depthAll], by simp, hQ⟩
      refine X_brow T (r := .str s d) (by rfl) h12 (by omega) (fun Q hQ => ?_) fun h13 o13 => ?_
      · refine E_tuple ?_
        walk_at "a"
        have hds := depth_str s
        exact ⟨[.str "switch_on_structure", .tuple (s.map strE), .int d], rfl, by simp only [PyData.depth, PyData.depthAll]; omega, by simp, hQ⟩
      refine X_nil (jn () _ _ (by walk_at "sub") ⟨(oo11.trans o12).trans o13, ?_⟩)
      have : st7.rows ++ (Row.term vl cl ll sl :: (secC cl d t ++ secS sl d s)) = st7.rows ++ [Row.term vl cl ll sl] ++ secC cl d t ++ [.lab sl] ++ [.str s d] := by simp [secS, hne]
      rw [this]
      exact h13.mono (by omega)
    · have q := df q
      have hne : s = [] := by
        cases s with
        | nil => rfl
        | cons a r => simp at q
      refine X_nil (jn () _ _ (by walk_at "sub") ⟨oo11, ?_⟩)
      have : st7.rows ++ (Row.term vl cl ll sl :: (secC cl d t ++ secS sl d s)) = st7.rows ++ [Row.term vl cl ll sl] ++ secC cl d t := by simp [secS, hne]
      rw [this]
      exact h11.mono (by omega)
  rintro _ σ12 ⟨oo12, h12⟩
  exact X_nil (hP _ _ oo12 h12 hInv (xAll.sw (sec := Row.term vl cl ll sl :: (secC cl d t ++ secS sl d s)) rfl rfl rfl hlen (fun l hl => (hlb l hl).2) hsafe))
end
noncomputable def chainpart (ar : Int) (ch : List (Int × List Nat)) : List Row := ch.flatMap fun p => .lab p.1 :: crow ar (p.2.map fun i : Nat => (i : Int))
noncomputable def clausepart (n : Nat) : List Row := (List.range n).flatMap fun i : Nat => [.lab (i : Int), .exec (i : Int)]
theorem crow_len {ar : Int} {ls : List Int} (h : 2 ≤ ls.length) : (crow ar ls).length = ls.length := by
  simp [crow]; omega
theorem chainpart_succ {ar : Int} {ch : List (Int × List Nat)} {i : Nat} {p : Int × List Nat} (h : ch[i]? = some p) : chainpart ar (ch.take (i + 1)) = chainpart ar (ch.take i) ++ (.lab p.1 :: crow ar (p.2.map fun i : Nat => (i : Int))) := by
  rw [take_succ h]; simp [chainpart]
theorem clausepart_succ {i : Nat} : clausepart (i + 1) = clausepart i ++ [.lab (i : Int), .exec (i : Int)] := by
  simp [clausepart, List.range_succ]

section
variable {C : Cx} {n : Nat} {env : Env} {m : Vars} {σ σ0 : AH} {P : V → AH → Prop} {b : Bld} {ar : Int} {k : Nat} {st : BSt}

theorem BOk.rowsTo {st : BSt} {rows rows' : List Row} {σ' : AH} {k k' : Nat} (h : BOk σ0 b ar k { st with rows := rows } σ') (e : rows' = rows) (hk : k ≤ k') : BOk σ0 b ar k' { st with rows := rows' } σ' := by
  subst e; exact h.mono hk

/-- the loop that adds rows -/
theorem X_addRows (T : Tx C) {PO : Out → Vars → AH → Prop} {rest : List Stmt} {x sn : Str} {px p1 p2 p3 p4 p5 p6 apos : Pos} {iter : Expr} (mv : Vars) (hx : (sn == x) = false) (hxm : mv.lookup x = none) (hself : mv.lookup sn = some (.obj b.a)) (hsub : Sub mv m)
    (hk : Sto env x)
    (hit : Ev C n env m iter σ (fun v σ1 => ∃ q rs st k, v = .obj q ∧ σ1 q = some (.list (dats (rs.map Row.d))) ∧ q ∉ b.xs ∧ k + rs.length ≤ 90000 ∧ BOk σ0 b ar k st σ1 ∧
      ∀ σ', OldX b.xs σ1 σ' → BOk σ0 b ar (k + rs.length) { st with rows := st.rows ++ rs } σ' → Ex C n env mv rest σ' PO))
    (hline : (apos.endLine == p2.line) = true := by rfl) (hset : isSet iter = false := by rfl) :
    Ex C n env m (.For (.Name x px) iter [.Expr (.Call (.Attribute (.Attribute (.Name sn p6) "rows" p1) "append" apos) [.Name x p5] [] p2) p3] [] p4 :: rest) σ PO := by
  refine X_forE (ι := Nat) hk (hit.mono ?_) hset
  rintro v σ1 ⟨q, rs, st, k, rfl, eq, hq, hkk, h, hP⟩
  refine ⟨fun i r σ' => r = (dats (rs.map Row.d)).drop i ∧ i ≤ (dats (rs.map Row.d)).length ∧ OldX b.xs σ1 σ' ∧ BOk σ0 b ar (k + i) { st with rows := st.rows ++ rs.take i } σ', fun _ => mv, _, _, 0, src_list eq, eq, hsub, ⟨rfl, Nat.zero_le _, OldX.refl _ _, by simpa using h⟩, ?_, ?_⟩
  · rintro i v r σ' ⟨hr', hil, o, h'⟩ hc
    refine Ex.gen fun PL ln => ?_
    obtain ⟨hi, hr2⟩ := drop_cons hr'
    have hlt0 := (List.getElem?_eq_some_iff.mp hi).1
    rw [List.getElem?_map] at hi
    obtain ⟨d, hd, rfl⟩ := Option.map_eq_some_iff.mp hi
    rw [List.getElem?_map] at hd
    obtain ⟨r, hr, rfl⟩ := Option.map_eq_some_iff.mp hd
    have hlt := (List.getElem?_eq_some_iff.mp hr).1
    refine X_brow T (r := r) (lk_tail hx hself) h' (by omega) (fun Q hQ => E_var lk_head hQ) (fun h2 o2 => X_nil (ln _ _ _ ⟨?_, i + 1, ?_, hr2, hlt0, o.trans o2, ?_⟩)) hline (by rfl)
    · exact o2 q _ hq hc
    · intro y u e
      rw [List.lookup_cons]
      cases hb : y == x with
      | false => exact e
      | true => rw [beq_iff_eq.mp hb, hxm] at e; cases e
    · exact h2.rowsTo (by rw [take_succ hr]; simp) (by omega)
  · rintro i σ' ⟨hr', hil, o, h'⟩ hc
    have := drop_nil hr' hil
    simp only [List.length_map] at this
    subst this
    exact hP σ' o (h'.rowsTo (by rw [List.take_length]) (Nat.le_refl _))

/-- self.codes[place].instrs -/
theorem E_bins (T : Tx C) {x y : Str} {px py p1 p2 p3 : Pos} {i : Nat} {c : Code} (h : BOk σ0 b ar k st σ) (hx : m.lookup x = some (.obj b.a)) (hy : m.lookup y = some (.int (i : Int))) (hi : b.cs[i]? = some c) (hP : P (.obj c.l) σ) :
    Ev C n env m (.Attribute (.Subscript (.Attribute (.Name x px) "codes" p1) (.Name y py) p2) "instrs" p3) σ P := by
  obtain ⟨fs, ii, hl, hb⟩ := h.inst
  have hc := h.codes.old h.old
  have hci := hc.each i c hi
  have hlt := (List.getElem?_eq_some_iff.mp hi).1
  refine E_as T (E_sub (E_va T hx ii hb.co (by rfl) (by rfl) (E_var hy (op_item_list (v := .obj c.a) hc.list (by have := hc.len; omega) (by rw [List.getElem?_map, hi]; rfl) ?_))))
  exact ⟨c.a, 365, c.d, c.fs, .obj c.l, _, rfl, hci.inst, hci.fi, rfl, rfl, hP⟩

theorem fn_finish (T : Tx C) {cnt : Nat} (hcnt : b.cs.length = cnt) (h : BOk σ0 b ar k st σ) (hk : k ≤ 800) (hi : BInv cnt st)
    (hP : ∀ σ', OldX b.xs σ σ' → Old σ0 σ' → σ' b.ro = some (.list (dats ((st.rows ++ chainpart ar st.chains ++ clausepart cnt).map Row.d))) → P (.obj b.ro) σ') : Fn C 3 266 [.obj b.a] σ P := by
  walk_at "fn"
  intro env hs hcl
  obtain ⟨fs, i, hfl, hb⟩ := h.inst
  have hcl' := h.chains.2
  refine X_forI (fun i σ' => OldX b.xs σ σ' ∧ BOk σ0 b ar (k + 5 * i) { st with rows := st.rows ++ chainpart ar (st.chains.take i) } σ') [("self", .obj b.a)] (by walk_at "sto") ?_
  refine E_va T (by rfl) i hb.ch (by rfl) (by rfl) ?_
  refine ⟨_, _, src_list h.chains.1, h.chains.1, by walk_at "sub", ⟨OldX.refl _ _, h.rowsTo (by simp [chainpart]) (by omega)⟩, ?_, ?_⟩
  · rintro i v σ' hiv ⟨o, h'⟩ hc
    refine Ex.gen fun PL ln => ?_
    rw [List.getElem?_map] at hiv
    obtain ⟨d, hd, rfl⟩ := Option.map_eq_some_iff.mp hiv
    rw [List.getElem?_map] at hd
    obtain ⟨⟨l, w⟩, hp, rfl⟩ := Option.map_eq_some_iff.mp hd
    have hil := (List.getElem?_eq_some_iff.mp hp).1
    obtain ⟨q1, q2, q3, q4, q5⟩ := hi.ch _ (List.mem_of_getElem? hp)
    dsimp only at q3 q4 q5
    refine X_brow T (r := .lab l) (by rfl) h' (by omega) (fun Q hQ => ?_) fun h2 o2 => ?_
    · refine E_tuple ?_
      refine A_cons ?_
      walk_at "v"
      refine A_cons ?_
      refine E_ti 0 (by rfl) (by rfl) (by decide) (by rfl) ?_
      exact A_nil ⟨[.str "label", .int l], rfl, by simp [PyData.depth, PyData.depthAll], by simp, hQ⟩
    have o02 := o.trans o2
    generalize upd σ' b.ro _ = σ2 at *
    obtain ⟨fs2, i2, hfl2, hb2⟩ := h2.inst
    have hchx : σ2 b.ch = some (.list (dats (st.chains.map chD))) := h2.chains.1
    refine X_addRows T (b := b) (σ0 := σ0) (ar := ar) [("self", .obj b.a)] (by rfl) (by rfl) (by rfl) (by walk_at "sub") (by walk_at "sto") ?_
    refine E_vm T (by rfl) i2 (hb2.no _ (by decide)) (by rfl) (by rfl) (by rfl) ?_
    refine A_cons ?_
    refine E_ti 1 (by rfl) (by rfl) (by decide) (by rfl) ?_
    refine A_nil ?_
    refine (fn_chain_rows T (ls := w.map fun i : Nat => (i : Int)) h2 (.inl (by simp)) (by simpa using q3) (by simp; omega) fun q σ3 o3 hq eq => ?_).up (by decide)
    have hcl3 : (crow ar (w.map fun i : Nat => (i : Int))).length ≤ 4 := by rw [crow_len (by simpa using q3)]; simpa using q4
    refine ⟨q, _, _, _, rfl, eq, h2.known_xs hq, ?_, h2.old' o3, fun σ4 o4 h4 => ?_⟩
    · omega
    · refine X_nil (ln _ _ _ ⟨h4.chains.1, by walk_at "sub", (o02.trans o3.x).trans o4, ?_⟩)
      exact h4.rowsTo (by rw [chainpart_succ hp]; simp) (by omega)
  · rintro σ' ⟨o, h'⟩ hc
    simp only [List.length_map] at h'
    rw [List.take_length] at h'
    refine X_forN (fun i σ' => OldX b.xs σ σ' ∧ BOk σ0 b ar (k + 5 * st.chains.length + 2 * i) { st with rows := st.rows ++ chainpart ar st.chains ++ clausepart i } σ') [("self", .obj b.a)] (by walk_at "sto") ?_
    walk_at "blt"
    refine A_cons ?_
    walk_at "blt"
    refine A_cons ?_
    obtain ⟨fs2, i2, hfl2, hb2⟩ := h'.inst
    refine E_va T (by rfl) i2 hb2.co (by rfl) (by rfl) ?_
    refine A_nil ?_
    have hcc := h'.codes.old h'.old
    refine cv_len hcc.list (by have := hcc.len; simp; omega) ?_
    refine A_nil ?_
    refine cv_range1 T.ok fun r hr => ?_
    rw [List.length_map, hcnt]
    have hcn : cnt ≤ 4 := by have := hcc.len; omega
    refine ⟨r, cnt, rfl, upd_same _ _ _, by omega, by walk_at "sub", ⟨(OldX.new o hr), (h'.old' ((OldX.refl _ _).new hr)).rowsTo (by simp [clausepart]) (by omega)⟩, ?_, ?_⟩
    · rintro j σ2 hj ⟨o2, h2⟩
      refine Ex.gen fun PL ln => ?_
      obtain ⟨c, hjc, _⟩ := drop_head (l := b.cs) (show j < b.cs.length by rw [hcnt]; exact hj)
      refine X_brow T (r := .lab (j : Int)) (by rfl) h2 (by omega) (fun Q hQ => ?_) fun h3 o3 => ?_
      · refine E_tuple ?_
        refine A_cons ?_
        walk_at "v"
        refine A_cons ?_
        refine E_var (v := .int (j : Int)) (by rfl) ?_
        exact A_nil ⟨[.str "label", .int (j : Int)], rfl, by simp [PyData.depth, PyData.depthAll], by simp, hQ⟩
      have o03 := o2.trans o3
      generalize upd σ2 b.ro _ = σ3 at *
      refine X_addRows T (b := b) (σ0 := σ0) (ar := ar) [("self", .obj b.a)] (by rfl) (by rfl) (by rfl) (by walk_at "sub") (by walk_at "sto") ?_
      refine E_bins T h3 (by rfl) (by rfl) hjc ?_
      have hci := (h3.codes.old h3.old).each j c hjc
      have hlx : c.l ∉ b.xs := by
        intro q
        have h1 := (h3.codes.each j c hjc).ins
        rw [h3.fresh _ q] at h1; cases h1
      refine ⟨c.l, [.exec (j : Int)], _, _, rfl, hci.ins, hlx, ?_, h3, fun σ4 o4 h4 => ?_⟩
      · simp only [List.length_singleton]; omega
      · refine X_nil (ln _ _ _ ⟨by walk_at "sub", o03.trans o4, ?_⟩)
        exact h4.rowsTo (by rw [clausepart_succ]; simp) (by simp only [List.length_singleton]; omega)
    · rintro σ2 ⟨o2, h2⟩
      obtain ⟨fs3, i3, hfl3, hb3⟩ := h2.inst
      refine X_ret ?_
      refine E_va T (by rfl) i3 hb3.ro (by rfl) (by rfl) ?_
      exact hP σ2 o2 h2.old h2.rows.1
end
noncomputable def X0 (cnt : Nat) : Nat → Int → Prop := fun _ l => 0 ≤ l ∧ l < (cnt : Int)
theorem X0.up {cnt : Nat} : UpX (X0 cnt) := fun _ _ _ _ h => h
structure BlockOk (cnt : Nat) (ks : List PyData) (full : List Row) : Prop where
  len : full.length ≤ 10000
  nodup : (labs full).Nodup
  parts : 2 ≤ cnt → ∃ ctl, full = ctl ++ clausepart cnt ∧ ∀ kd, Safe (X0 cnt) cnt ks kd 16 ctl
  small : cnt < 2 → full = [.fail] ∨ full = [.exec 0]
  tab : ∀ r ∈ full, r.tl ≤ 8

section
variable {X : Nat → Int → Prop} {cnt : Nat} {ks : List PyData} {kd : Kd} {more : List Row} {ar : Int}

theorem mid_safe {c : Nat} {z : Int} (hz : Jump X (Safe X cnt ks kd) c more z) : ∀ (mid : List Int), (∀ l ∈ mid, Jump X (Safe X cnt ks kd) c more l) → Safe X cnt ks kd (c * (mid.length + 1)) (mid.map Row.retry ++ [.trust z] ++ more)
  | [], _ => by
    refine Safe.intro ?_
    show Jump X _ (c * (0 + 1)) more z
    rw [Nat.zero_add, Nat.mul_one]; exact hz
  | l :: mid, h => by
    refine Safe.intro ?_
    refine ⟨c, c * (mid.length + 1), ?_, ?_, mid_safe hz mid fun x hx => h x (List.mem_cons_of_mem _ hx)⟩
    · rw [List.length_cons, Nat.mul_succ c (mid.length + 1)]; omega
    · exact (h l (by simp)).pre
theorem crow_safe {c : Nat} {ls : List Int} (h2 : 2 ≤ ls.length) (h : ∀ l ∈ ls, Jump X (Safe X cnt ks kd) c more l) : Safe X cnt ks kd (c * ls.length) (crow ar ls ++ more) := by
  have hg : ∀ i, i < ls.length → (ls[i]?).getD 0 ∈ ls := fun i hi => by rw [List.getElem?_eq_getElem hi]; exact List.getElem_mem hi
  have hm := mid_safe (h _ (hg (ls.length - 1) (by omega))) ((ls.drop 1).take (ls.length - 2)) fun l hl => h l (List.mem_of_mem_drop (List.mem_of_mem_take hl))
  have hlen : ((ls.drop 1).take (ls.length - 2)).length = ls.length - 2 := by rw [List.length_take, List.length_drop]; omega
  rw [hlen] at hm
  refine Safe.intro ?_
  refine ⟨c, c * (ls.length - 2 + 1), ?_, ?_, hm⟩
  · have : ls.length = (ls.length - 2 + 1) + 1 := by omega
    calc c + c * (ls.length - 2 + 1) = c * ((ls.length - 2 + 1) + 1) := by rw [Nat.mul_succ c (ls.length - 2 + 1)]; omega
      _ ≤ c * ls.length := by rw [← this]; exact Nat.le_refl _
  · exact Jump.pre (h _ (hg 0 (by omega)))

theorem labs_crow {ls : List Int} : labs (crow ar ls) = [] := by
  have : ∀ (mid : List Int) (z : Int), labs (mid.map Row.retry ++ [.trust z]) = [] := by
    intro mid z
    induction mid with
    | nil => rfl
    | cons a r ih => exact ih
  exact this _ _
theorem tl_crow {ls : List Int} : ∀ r ∈ crow ar ls, r.tl ≤ 8 := by
  intro r hr
  simp only [crow, List.mem_cons, List.mem_append, List.mem_map, List.not_mem_nil, or_false] at hr
  rcases hr with rfl | ⟨_, _, rfl⟩ | rfl <;> exact Nat.zero_le _
theorem tl_chainpart : ∀ (ch : List (Int × List Nat)), ∀ r ∈ chainpart ar ch, r.tl ≤ 8
  | [], r, hr => by cases hr
  | p :: ch, r, hr => by
    have hr : r ∈ (.lab p.1 :: crow ar (p.2.map fun i : Nat => (i : Int))) ++ chainpart ar ch := hr
    rcases List.mem_append.mp hr with hr | hr
    · rcases List.mem_cons.mp hr with rfl | hr
      · exact Nat.zero_le _
      · exact tl_crow r hr
    · exact tl_chainpart ch r hr
theorem tl_clausepart : ∀ n, ∀ r ∈ clausepart n, r.tl ≤ 8
  | 0, r, hr => by simp [clausepart] at hr
  | n + 1, r, hr => by
    rw [clausepart_succ] at hr
    rcases List.mem_append.mp hr with hr | hr
    · exact tl_clausepart n r hr
    · simp only [List.mem_cons, List.not_mem_nil, or_false] at hr
      rcases hr with rfl | rfl <;> exact Nat.zero_le _
theorem labs_chainpart : ∀ (ch : List (Int × List Nat)), labs (chainpart ar ch) = ch.map (·.1)
  | [] => rfl
  | p :: ch => by
    show labs ((.lab p.1 :: crow ar _) ++ chainpart ar ch) = _
    rw [labs_app, labs_chainpart ch]
    show p.1 :: (labs (crow ar _) ++ ch.map (·.1)) = _
    rw [labs_crow]; rfl
theorem labs_clausepart : ∀ n, labs (clausepart n) = (List.range n).map fun i : Nat => (i : Int)
  | 0 => rfl
  | n + 1 => by rw [clausepart_succ, labs_app, labs_clausepart n, List.range_succ, List.map_append]; rfl
theorem chainpart_len : ∀ (ch : List (Int × List Nat)), (∀ p ∈ ch, 2 ≤ p.2.length ∧ p.2.length ≤ 4) → (chainpart ar ch).length ≤ 5 * ch.length
  | [], _ => by simp [chainpart]
  | p :: ch, h => by
    have h1 := h p (by simp)
    have h2 := chainpart_len ch fun q hq => h q (List.mem_cons_of_mem _ hq)
    show ((.lab p.1 :: crow ar _) ++ chainpart ar ch).length ≤ _
    have h3 : (crow ar (p.2.map fun i : Nat => (i : Int))).length = p.2.length := by rw [crow_len (by simpa using h1.1)]; simp
    rw [List.length_append, List.length_cons, h3, List.length_cons]
    omega
theorem clausepart_len : ∀ n, (clausepart n).length = 2 * n
  | 0 => rfl
  | n + 1 => by rw [clausepart_succ, List.length_append, clausepart_len n]; simp; omega
theorem clausepart_split : ∀ {n i : Nat}, i < n → ∃ pre suf, clausepart n = pre ++ .lab (i : Int) :: suf
  | n + 1, i, h => by
    rw [clausepart_succ]
    rcases Nat.lt_or_ge i n with q | q
    · obtain ⟨p, s, e⟩ := clausepart_split q
      exact ⟨p, s ++ [.lab (n : Int), .exec (n : Int)], by rw [e]; simp⟩
    · obtain rfl : i = n := by omega
      exact ⟨clausepart i, [.exec (i : Int)], rfl⟩
theorem chainpart_split : ∀ {ch : List (Int × List Nat)} {p : Int × List Nat}, p ∈ ch → ∃ pre suf, chainpart ar ch = pre ++ .lab p.1 :: (crow ar (p.2.map fun i : Nat => (i : Int)) ++ suf)
  | q :: ch, p, h => by
    rcases List.mem_cons.mp h with rfl | h
    · exact ⟨[], chainpart ar ch, rfl⟩
    · obtain ⟨pre, suf, e⟩ := chainpart_split h
      exact ⟨.lab q.1 :: crow ar (q.2.map fun i : Nat => (i : Int)) ++ pre, suf, by
        show (.lab q.1 :: crow ar _) ++ chainpart ar ch = _
        rw [e]; simp⟩

theorem BlockOk.safe {full : List Row} (h : BlockOk cnt ks full) (h2 : 2 ≤ cnt) (kd : Kd) : Safe noX cnt ks kd 16 full := by
  obtain ⟨ctl, rfl, hs⟩ := h.parts h2
  refine (hs kd).app fun b l hb hl => ⟨hb, .inr (.inr ?_)⟩
  obtain ⟨pre, suf, e⟩ := clausepart_split (n := cnt) (i := l.toNat) (by have := hl.1; have := hl.2; omega)
  have hl0 := hl.1
  rw [show ((l.toNat : Nat) : Int) = l by omega] at e
  exact ⟨pre, suf, e, Safe.intro ⟨hb, .inl hl⟩⟩

/-- what the builder has made -/
theorem blockOf {st : BSt} (hi : BInv cnt st) (h2 : 2 ≤ cnt) (h4 : cnt ≤ 4) (hs : ∀ kd, Safe (XL cnt st.chains) cnt ks kd 16 st.rows) (hr : st.rows.length ≤ 900) (hc : st.chains.length ≤ 900) : BlockOk cnt ks (st.rows ++ chainpart ar st.chains ++ clausepart cnt) := by
  refine ⟨?_, ?_, fun _ => ⟨st.rows ++ chainpart ar st.chains, rfl, fun kd => ?_⟩, fun h => by omega, fun r hr => by
    rcases List.mem_append.mp hr with hr | hr
    · rcases List.mem_append.mp hr with hr | hr
      · exact hi.tab r hr
      · exact tl_chainpart _ r hr
    · exact tl_clausepart _ r hr⟩
  · have := chainpart_len (ar := ar) st.chains fun p hp => ⟨(hi.ch p hp).2.2.1, (hi.ch p hp).2.2.2.1⟩
    rw [List.length_append, List.length_append, clausepart_len]; omega
  · rw [labs_app, labs_app, labs_chainpart, labs_clausepart]
    refine List.nodup_append.mpr ⟨hi.nodup, ?_, ?_⟩
    · exact List.pairwise_map.mpr (List.Pairwise.imp (fun h e => h (by omega)) List.nodup_range)
    · intro x hx y hy e
      subst e
      obtain ⟨i, hi', rfl⟩ := List.mem_map.mp hy
      have hil : i < cnt := List.mem_range.mp hi'
      rcases List.mem_append.mp hx with hx | hx
      · have := (hi.lab _ hx).1; omega
      · obtain ⟨p, hp, e⟩ := List.mem_map.mp hx
        have := (hi.ch p hp).1; omega
  · refine (hs kd).app fun b l hb hl => ?_
    refine ⟨hb, ?_⟩
    rcases hl with hl | ⟨w, hw, hwl⟩
    · exact .inr (.inl hl)
    · obtain ⟨pre, suf, e⟩ := chainpart_split (ar := ar) hw
      obtain ⟨q1, _, q3, _, q5⟩ := hi.ch _ hw
      refine .inr (.inr ⟨pre, _, e, Safe.intro ⟨hb, .inr ⟨q1, ?_⟩⟩⟩)
      have hcs := crow_safe (X := X0 cnt) (cnt := cnt) (ks := ks) (kd := kd) (ar := ar) (more := suf) (c := 1) (ls := w.map fun i : Nat => (i : Int)) (by simpa using q3) fun l hl => by
        obtain ⟨i, hi', rfl⟩ := List.mem_map.mp hl
        exact ⟨Nat.le_refl _, .inr (.inl ⟨by omega, by have := q5 i hi'; omega⟩)⟩
      refine hcs.up ?_ X0.up
      simpa using hwl
end
section
variable {C : Cx} {n : Nat} {env : Env} {m : Vars} {σ σ0 : AH} {P : V → AH → Prop} {b : Bld} {ar : Int} {k : Nat} {st : BSt}

theorem fn_bInit (T : Tx C) {a d L : Addr} {cs : List Code} (hne : a ≠ d) (ha : σ a = none) (hd : σ d = none) (hc : CodesOk σ L cs)
    (hP : ∀ b σ', b.a = a → b.cs = cs → Old σ σ' → BOk σ b ar 10 ⟨[], [], (cs.length : Int)⟩ σ' → P .none σ') : Fn C 1 210 [.obj a, .int ar, .obj L] (upd (upd σ d (.attrs [])) a (.inst 269 d)) P := by
  walk_at "fn"
  intro env hs hcl
  have i0 : Inst (upd (upd σ d (.attrs [])) a (.inst 269 d)) a 269 d [] := Inst.make hne
  have o0 : OldX [a, d] σ (upd (upd σ d (.attrs [])) a (.inst 269 d)) := ((OldX.refl _ _).put (by simp)).put (by simp)
  generalize upd (upd σ d (.attrs [])) a (.inst 269 d) = σ0 at *
  have fr : ∀ {σ1 : AH} {t : Addr} {fs : Vars}, OldX [a, d] σ σ1 → Inst σ1 a 269 d fs → σ1 t = none → σ t = none := by
    intro σ1 t fs o i ht
    refine o.none ?_ ht
    intro q; simp only [List.mem_cons, List.not_mem_nil, or_false] at q
    rcases q with rfl | rfl
    · rw [i.obj] at ht; cases ht
    · rw [i.att] at ht; cases ht
  refine X_sa T (a := a) (cc := 269) (d := d) (by rfl) (by rfl) (by rfl) ?_
  walk_at "v"
  refine ⟨_, i0, by simp, ?_⟩
  have i1 := i0.set (fs' := [("arity", V.int ar)])
  have o1 := o0.put (a := d) (x := .attrs [("arity", V.int ar)]) (by simp)
  generalize upd σ0 d (.attrs [("arity", V.int ar)]) = σ1 at *
  refine X_sa T (a := a) (cc := 269) (d := d) (by rfl) (by rfl) (by rfl) ?_
  walk_at "v"
  refine ⟨_, i1, by simp, ?_⟩
  have i2 := i1.set (fs' := [("codes", V.obj L), ("arity", V.int ar)])
  have o2 := o1.put (a := d) (x := .attrs [("codes", V.obj L), ("arity", V.int ar)]) (by simp)
  generalize upd σ1 d (.attrs [("codes", V.obj L), ("arity", V.int ar)]) = σ2 at *
  refine X_sa T (a := a) (cc := 269) (d := d) (by rfl) (by rfl) (by rfl) ?_
  refine E_list T.ok ?_
  refine A_nil ⟨by simp, fun ro hro => ?_⟩
  refine ⟨_, i2.new hro, by simp, ?_⟩
  have i3 := (i2.new hro (x := .list [])).set (fs' := [("rows", V.obj ro), ("codes", V.obj L), ("arity", V.int ar)])
  have e3 : upd (upd σ2 ro (.list [])) d (.attrs [("rows", V.obj ro), ("codes", V.obj L), ("arity", V.int ar)]) ro = some (.list []) := by
    rw [upd_other (ne_k (upd_same σ2 ro (.list [])) (upd_old hro i2.att) (by simp))]; exact upd_same _ _ _
  have o3 := (o2.new hro (x := .list [])).put (a := d) (x := .attrs [("rows", V.obj ro), ("codes", V.obj L), ("arity", V.int ar)]) (by simp)
  have f3 := fr o2 i2 hro
  generalize upd (upd σ2 ro (.list [])) d (.attrs [("rows", V.obj ro), ("codes", V.obj L), ("arity", V.int ar)]) = σ3 at *
  refine X_sa T (a := a) (cc := 269) (d := d) (by rfl) (by rfl) (by rfl) ?_
  refine E_list T.ok ?_
  refine A_nil ⟨by simp, fun ch hch => ?_⟩
  refine ⟨_, i3.new hch, by simp, ?_⟩
  have i4 := (i3.new hch (x := .list [])).set (fs' := [("chains", V.obj ch), ("rows", V.obj ro), ("codes", V.obj L), ("arity", V.int ar)])
  have e4 : upd (upd σ3 ch (.list [])) d (.attrs [("chains", V.obj ch), ("rows", V.obj ro), ("codes", V.obj L), ("arity", V.int ar)]) ch = some (.list []) := by
    rw [upd_other (ne_k (upd_same σ3 ch (.list [])) (upd_old hch i3.att) (by simp))]; exact upd_same _ _ _
  have e43 : upd (upd σ3 ch (.list [])) d (.attrs [("chains", V.obj ch), ("rows", V.obj ro), ("codes", V.obj L), ("arity", V.int ar)]) ro = some (.list []) := upd2 hch e3 i3.att (by simp)
  have ne4 : ro ≠ ch := by rintro rfl; rw [e3] at hch; cases hch
  have o4 := (o3.new hch (x := .list [])).put (a := d) (x := .attrs [("chains", V.obj ch), ("rows", V.obj ro), ("codes", V.obj L), ("arity", V.int ar)]) (by simp)
  have f4 := fr o3 i3 hch
  generalize upd (upd σ3 ch (.list [])) d (.attrs [("chains", V.obj ch), ("rows", V.obj ro), ("codes", V.obj L), ("arity", V.int ar)]) = σ4 at *
  refine X_sa T (a := a) (cc := 269) (d := d) (by rfl) (by rfl) (by rfl) ?_
  refine E_dT T.ok fun kn hkn => ?_
  refine ⟨_, i4.new hkn, by simp, ?_⟩
  have i5 := (i4.new hkn (x := .dT [])).set (fs' := [("known", V.obj kn), ("chains", V.obj ch), ("rows", V.obj ro), ("codes", V.obj L), ("arity", V.int ar)])
  have e5 : upd (upd σ4 kn (.dT [])) d (.attrs [("known", V.obj kn), ("chains", V.obj ch), ("rows", V.obj ro), ("codes", V.obj L), ("arity", V.int ar)]) kn = some (.dT []) := by
    rw [upd_other (ne_k (upd_same σ4 kn (.dT [])) (upd_old hkn i4.att) (by simp))]; exact upd_same _ _ _
  have e53 : upd (upd σ4 kn (.dT [])) d (.attrs [("known", V.obj kn), ("chains", V.obj ch), ("rows", V.obj ro), ("codes", V.obj L), ("arity", V.int ar)]) ro = some (.list []) := upd2 hkn e43 i4.att (by simp)
  have e54 : upd (upd σ4 kn (.dT [])) d (.attrs [("known", V.obj kn), ("chains", V.obj ch), ("rows", V.obj ro), ("codes", V.obj L), ("arity", V.int ar)]) ch = some (.list []) := upd2 hkn e4 i4.att (by simp)
  have o5 := (o4.new hkn (x := .dT [])).put (a := d) (x := .attrs [("known", V.obj kn), ("chains", V.obj ch), ("rows", V.obj ro), ("codes", V.obj L), ("arity", V.int ar)]) (by simp)
  have f5 := fr o4 i4 hkn
  generalize upd (upd σ4 kn (.dT [])) d (.attrs [("known", V.obj kn), ("chains", V.obj ch), ("rows", V.obj ro), ("codes", V.obj L), ("arity", V.int ar)]) = σ5 at *
  have adx : ∀ z ∈ [a, d], σ z = none := by intro z hz; simp only [List.mem_cons, List.not_mem_nil, or_false] at hz; rcases hz with rfl | rfl <;> assumption
  refine X_sa T (a := a) (cc := 269) (d := d) (by rfl) (by rfl) (by rfl) ?_
  walk_at "blt"
  walk_at "a"
  refine cv_len (hc.old (o5.old adx)).list (by have := hc.len; simp; omega) ?_
  rw [List.length_map]
  refine ⟨_, i5, by simp, ?_⟩
  have o6 := o5.put (a := d) (x := .attrs [("next_label", V.int (cs.length : Int)), ("known", V.obj kn), ("chains", V.obj ch), ("rows", V.obj ro), ("codes", V.obj L), ("arity", V.int ar)]) (by simp)
  refine X_nil (hP ⟨a, d, ro, ch, kn, L, cs⟩ _ rfl rfl (o6.old adx) ⟨⟨_, i5.set, by simp, ⟨by rfl, by rfl, by rfl, by rfl, by rfl, by rfl, ?_⟩⟩, ⟨?_, by simp⟩, ⟨?_, by simp⟩, ⟨[], ?_, by simp, ?_⟩, ne4, o6.old adx, ?_, hc⟩)
  · intro x hx
    simp only [mNames, List.mem_cons, List.not_mem_nil, or_false] at hx
    rcases hx with rfl | rfl | rfl | rfl | rfl | rfl | rfl | rfl <;> rfl
  · rw [upd_other (ne_k e53 i5.att (by simp))]; exact e53
  · rw [upd_other (ne_k e54 i5.att (by simp))]; exact e54
  · rw [upd_other (ne_k e5 i5.att (by simp))]; exact e5
  · intro k v e; simp [kvLook] at e
  · intro z hz
    simp only [Bld.xs, List.mem_cons, List.not_mem_nil, or_false] at hz
    rcases hz with rfl | rfl | rfl | rfl | rfl <;> assumption

theorem BInv.zero {n : Nat} : BInv n ⟨[], [], (n : Int)⟩ := ⟨by simp, by simp [labs], by simp [labs], Int.le_refl _, by simp⟩

theorem fn_small (T : Tx C) {L : Addr} {cs : List Code} (hc : CodesOk σ L cs)
    (hP : ∀ a σ' full, Old σ σ' → σ a = none → σ' a = some (.list (dats (full.map Row.d))) → (full = [.fail] ∨ full = [.exec 0]) → P (.obj a) σ') : Fn C 1 280 [.obj L] σ P := by
  walk_at "fn"
  intro env hs hcl
  refine X_if ?_
  refine T_cmp ?_
  walk_at "blt"
  walk_at "a"
  refine cv_len hc.list (by have := hc.len; simp; omega) ?_
  walk_at "v"
  refine op_eq rfl rfl ⟨_, rfl, fun _ => ?_, fun q => ?_⟩
  · refine X_ret ?_
    refine E_list T.ok ?_
    refine A_cons ?_
    refine E_tuple ?_
    walk_at "a"
    refine ⟨[.str "fail"], rfl, by simp [PyData.depth, PyData.depthAll], by simp, ?_⟩
    refine A_nil ⟨by simp, fun a ha => ?_⟩
    exact hP a _ [.fail] ((OldX.refl _ _).new ha) ha (upd_same _ _ _) (.inl rfl)
  · refine X_nil ?_
    have q := df q
    have hpos : 0 < cs.length := by
      rcases Nat.eq_zero_or_pos cs.length with z | z
      · exact absurd (by rw [List.length_map, z]; rfl) q
      · exact z
    obtain ⟨c, hc0, _⟩ := drop_head hpos
    have hci := hc.each 0 c hc0
    refine X_ret ?_
    walk_at "blt"
    refine A_cons ?_
    refine E_as T ?_
    refine E_sub ?_
    walk_at "v"
    walk_at "v"
    refine op_item_list (k := 0) (v := .obj c.a) hc.list (by decide) (by rw [List.getElem?_map, hc0]; rfl) ?_
    refine ⟨c.a, 365, c.d, c.fs, .obj c.l, _, rfl, hci.inst, hci.fi, rfl, rfl, ?_⟩
    refine A_nil ?_
    refine cv_list_list T.ok hci.ins (by simp) fun a ha => ?_
    exact hP a _ [.exec 0] ((OldX.refl _ _).new ha) ha (upd_same _ _ _) (.inr rfl)
end
section
variable {C : Cx} {n : Nat} {env : Env} {m : Vars} {σ σ0 : AH} {P : V → AH → Prop} {sc : Scope}

/-- BlockBuilder(symbols.arity(functor), codes) -/
theorem E_mkB (T : Tx C) {np p1 p2 p3 p4 p5 pos : Pos} {s : Sym} {rows : List (Int × Int)} {k i : Nat} {L : Addr} {cs : List Code} (hs : env.scope = sc) (hk : sc.names.lookup ("BlockBuilder" : Str) = some .globalImplicit)
    (h1 : m.lookup ("symbols" : Str) = some (.obj s.a)) (h2 : m.lookup ("functor" : Str) = some (.int (i : Int))) (h3 : m.lookup ("codes" : Str) = some (.obj L)) (hS : SymOk σ s rows k) (hkk : k ≤ 1000) (hi : i < rows.length) (hc : CodesOk σ L cs)
    (hP : ∀ b ar σ', b.cs = cs → σ b.a = none → Old σ σ' → BOk σ b ar 10 ⟨[], [], (cs.length : Int)⟩ σ' → P (.obj b.a) σ') (hline : (p2.endLine == p4.line) = true) :
    Ev C (n + 2) env m (.Call (.Name "BlockBuilder" np) [.Call (.Attribute (.Name "symbols" p1) "arity" p2) [.Name "functor" p3] [] p4, .Name "codes" p5] [] pos) σ P := by
  refine E_nw T hs (by rfl) hk ?_
  refine A_cons ?_
  refine E_vm T h1 hS.inst (by rfl) (by rfl) (by rfl) (by rfl) ?_ (by rfl) (by rfl) hline
  refine A_cons ?_
  refine E_var h2 ?_
  refine A_nil ?_
  refine (fn_arity T hS hkk hi fun y => ?_).up (by omega)
  refine A_cons ?_
  refine E_var h3 ?_
  refine A_nil ?_
  intro a d hne ha hd
  refine (fn_bInit T hne ha hd hc fun b σ' e1 e2 o hb => ?_).up (by omega)
  subst e1
  exact ⟨rfl, hP b y σ' e2 ha o hb⟩

theorem fn_chain_block (T : Tx C) {s : Sym} {rows : List (Int × Int)} {k i : Nat} {L : Addr} {cs : List Code} (hS : SymOk σ s rows k) (hkk : k ≤ 1000) (hi : i < rows.length) (hc : CodesOk σ L cs)
    (hP : ∀ a full σ', Old σ σ' → σ a = none → σ' a = some (.list (dats (full.map Row.d))) → BlockOk cs.length (keysOf cs) full → P (.obj a) σ') : Fn C 6 287 [.obj s.a, .int (i : Int), .obj L] σ P := by
  walk_at "fn"
  intro env hs hcl
  have hlen := hc.len
  refine X_if ?_
  refine T_cmp ?_
  walk_at "blt"
  walk_at "a"
  refine cv_len hc.list (by simp; omega) ?_
  walk_at "v"
  rw [List.length_map]
  refine op_lt ⟨_, rfl, fun q => ?_, fun q => ?_⟩
  · have q := dt q
    refine X_ret ?_
    walk_at "call"
    walk_at "a"
    refine (fn_small T hc fun a σ' full o ha e hf => ?_).up (by decide)
    refine hP a full σ' o ha e ⟨?_, ?_, fun h => by omega, fun _ => hf, by rcases hf with rfl | rfl <;> simp [Row.tl]⟩
    · rcases hf with rfl | rfl <;> decide
    · rcases hf with rfl | rfl <;> simp [labs]
  have q := df q
  refine X_nil ?_
  refine X_assign (by walk_at "sto") ?_
  refine E_mkB T hs (by rfl) (by rfl) (by rfl) (by rfl) hS hkk hi hc (fun b ar σ1 hbc hba o1 h1 => ?_) (by rfl)
  obtain ⟨fs, ii, hfl, hb⟩ := h1.inst
  refine X_addRows T (b := b) (σ0 := σ) (ar := ar) [("builder", .obj b.a)] (by rfl) (by rfl) (by rfl) (by walk_at "sub") (by walk_at "sto") ?_
  refine E_vm T (by rfl) ii (hb.no _ (by decide)) (by rfl) (by rfl) (by rfl) ?_
  refine A_cons ?_
  walk_at "blt"
  refine A_cons ?_
  walk_at "blt"
  refine A_cons ?_
  walk_at "blt"
  walk_at "a"
  refine cv_len (hc.old o1).list (by simp; omega) ?_
  refine A_nil ?_
  refine cv_range1 T.ok fun r hr => ?_
  refine A_nil ?_
  rw [List.length_map]
  refine cv_list_rng T.ok (upd_same _ _ _) (by omega) fun l hl => ?_
  refine A_nil ?_
  have o2 : Old σ1 (upd (upd σ1 r (.rng 0 (cs.length : Int))) l (.list ((List.range cs.length).map fun i : Nat => V.int (i : Int)))) := ((OldX.refl _ _).new hr).new hl
  have el : upd (upd σ1 r (.rng 0 (cs.length : Int))) l (.list ((List.range cs.length).map fun i : Nat => V.int (i : Int))) l = some (.list (iV ((List.range cs.length).map fun i : Nat => (i : Int)))) := by rw [upd_same]; simp [iV]
  have h2 := h1.old' o2
  generalize upd (upd σ1 r (.rng 0 (cs.length : Int))) l (.list ((List.range cs.length).map fun i : Nat => V.int (i : Int))) = σ2 at *
  refine (fn_chain_rows T (ls := (List.range cs.length).map fun i : Nat => (i : Int)) h2 (.inr ⟨l, rfl, el⟩) (by simp; omega) (by simp; omega) fun q' σ3 o3 hq' eq' => ?_).up (by decide)
  have hcl4 : (crow ar ((List.range cs.length).map fun i : Nat => (i : Int))).length ≤ 4 := by rw [crow_len (by simp; omega)]; simp; omega
  refine ⟨q', _, _, _, rfl, eq', h2.known_xs hq', by omega, h2.old' o3, fun σ4 o4 h4 => ?_⟩
  obtain ⟨fs4, i4, hfl4, hb4⟩ := h4.inst
  refine X_ret ?_
  refine E_vm T (by rfl) i4 (hb4.no _ (by decide)) (by rfl) (by rfl) (by rfl) ?_
  refine A_nil ?_
  have hinv : BInv cs.length { (⟨[], [], (cs.length : Int)⟩ : BSt) with rows := ([] : List Row) ++ crow ar ((List.range cs.length).map fun i : Nat => (i : Int)) } := by
    have hz := (BInv.zero (n := cs.length)).sec (sec := crow ar ((List.range cs.length).map fun i : Nat => (i : Int))) (by rw [labs_crow]; simp) (by rw [labs_crow]; simp) tl_crow
    exact hz
  have hba4 := h4.fresh b.ro (by simp [Bld.xs])
  refine (fn_finish T (cnt := cs.length) (by rw [hbc]) h4 (by omega) hinv fun σ5 o5 o05 e5 => ?_).up (by decide)
  refine hP b.ro _ σ5 o05 hba4 e5 (blockOf hinv (by omega) hlen (fun kd => ?_) (by simp; omega) (by simp))
  have := crow_safe (X := XL cs.length []) (cnt := cs.length) (ks := keysOf cs) (kd := kd) (ar := ar) (more := []) (c := 1) (ls := (List.range cs.length).map fun i : Nat => (i : Int)) (by simp; omega) fun l hl => by
    obtain ⟨i, hi', rfl⟩ := List.mem_map.mp hl
    exact ⟨Nat.le_refl _, .inr (.inl (.inl ⟨by omega, by have := List.mem_range.mp hi'; omega⟩))⟩
  rw [List.append_nil] at this
  refine (this.up (b' := 16) (by simp; omega) ?_)
  intro b b' l hb h
  rcases h with h | ⟨w, hw, hwl⟩
  · exact .inl h
  · exact .inr ⟨w, hw, by omega⟩
end
theorem XL.up {cnt : Nat} {ch : List (Int × List Nat)} : UpX (XL cnt ch) := by
  intro b b' l hb h
  rcases h with h | ⟨w, hw, hwl⟩
  · exact .inl h
  · exact .inr ⟨w, hw, by omega⟩

section
variable {C : Cx} {n : Nat} {env : Env} {m : Vars} {σ σ0 : AH} {P : V → AH → Prop} {sc : Scope}

theorem fn_index_block (T : Tx C) {s : Sym} {rows : List (Int × Int)} {k i : Nat} {L : Addr} {cs : List Code} (hS : SymOk σ s rows k) (hkk : k ≤ 1000) (hi : i < rows.length) (hc : CodesOk σ L cs)
    (hP : ∀ a full σ', Old σ σ' → σ a = none → σ' a = some (.list (dats (full.map Row.d))) → BlockOk cs.length (keysOf cs) full → P (.obj a) σ') : Fn C 7 294 [.obj s.a, .int (i : Int), .obj L] σ P := by
  walk_at "fn"
  intro env hs hcl
  have hlen := hc.len
  refine X_if ?_
  refine T_cmp ?_
  walk_at "blt"
  walk_at "a"
  refine cv_len hc.list (by simp; omega) ?_
  walk_at "v"
  rw [List.length_map]
  refine op_lt ⟨_, rfl, fun q => ?_, fun q => ?_⟩
  · have q := dt q
    refine X_ret ?_
    walk_at "call"
    walk_at "a"
    refine (fn_small T hc fun a σ' full o ha e hf => ?_).up (by decide)
    refine hP a full σ' o ha e ⟨?_, ?_, fun h => by omega, fun _ => hf, by rcases hf with rfl | rfl <;> simp [Row.tl]⟩
    · rcases hf with rfl | rfl <;> decide
    · rcases hf with rfl | rfl <;> simp [labs]
  have q := df q
  refine X_nil ?_
  -- to chain_block
  have toChain : ∀ {p0 p1 p2 p3 p4 : Pos} {rest : List Stmt} {PO : Out → Vars → AH → Prop}, (∀ a full σ', Old σ σ' → σ a = none → σ' a = some (.list (dats (full.map Row.d))) → BlockOk cs.length (keysOf cs) full → PO (.ret (.obj a)) ((sParams (stmtAt 21)).zip [.obj s.a, .int (i : Int), .obj L]).reverse σ') →
      Ex C 6 env ((sParams (stmtAt 21)).zip [.obj s.a, .int (i : Int), .obj L]).reverse [.Return (some (.Call (.Name "chain_block" p0) [.Name "symbols" p1, .Name "functor" p2, .Name "codes" p3] [] p4)) p4] σ PO := by
    intro p0 p1 p2 p3 p4 rest PO h
    refine X_ret ?_
    walk_at "call"
    walk_at "a"
    exact (fn_chain_block T hS hkk hi hc h).up (by decide)
  refine X_if ?_
  refine T_or ?_
  refine T_cmp ?_
  refine E_vm T (by rfl) hS.inst (by rfl) (by rfl) (by rfl) (by rfl) ?_
  walk_at "a"
  refine (fn_arity T hS hkk hi fun y => ?_).up (by decide)
  walk_at "v"
  refine op_eq rfl rfl ⟨_, rfl, fun _ => ⟨fun _ => ?_, fun e => by cases e⟩, fun _ => ?_⟩
  · refine X_ret ?_
    walk_at "call"
    walk_at "a"
    exact (fn_chain_block T hS hkk hi hc hP).up (by decide)
  refine T_of ?_
  walk_at "call"
  walk_at "a"
  refine (fn_allvar T hc fun av => ?_).up (by decide)
  refine truthy_bool ⟨fun _ => ?_, fun _ => X_nil ?_⟩
  · refine X_ret ?_
    walk_at "call"
    walk_at "a"
    exact (fn_chain_block T hS hkk hi hc hP).up (by decide)
  refine X_assign (by walk_at "sto") ?_
  refine E_mkB T hs (by rfl) (by rfl) (by rfl) (by rfl) hS hkk hi hc (fun b ar σ1 hbc hba o1 h1 => ?_) (by rfl)
  obtain ⟨fs, ii, hfl, hb⟩ := h1.inst
  refine X_expr ?_
  refine E_vm T (by rfl) ii (hb.no _ (by decide)) (by rfl) (by rfl) (by rfl) ?_
  refine A_cons ?_
  walk_at "blt"
  refine A_cons ?_
  walk_at "blt"
  refine A_cons ?_
  walk_at "blt"
  walk_at "a"
  refine cv_len (hc.old o1).list (by simp; omega) ?_
  refine A_nil ?_
  refine cv_range1 T.ok fun r hr => ?_
  refine A_nil ?_
  rw [List.length_map]
  refine cv_list_rng T.ok (upd_same _ _ _) (by omega) fun l hl => ?_
  refine A_nil ?_
  have o2 : Old σ1 (upd (upd σ1 r (.rng 0 (cs.length : Int))) l (.list ((List.range cs.length).map fun i : Nat => V.int (i : Int)))) := ((OldX.refl _ _).new hr).new hl
  have hl1 : σ1 l = none := by
    cases e : σ1 l with
    | none => rfl
    | some z => rw [upd_old hr e] at hl; cases hl
  have el : upd (upd σ1 r (.rng 0 (cs.length : Int))) l (.list ((List.range cs.length).map fun i : Nat => V.int (i : Int))) l = some (.list (nV (List.range cs.length))) := by rw [upd_same]
  have h2 := h1.old' o2
  generalize upd (upd σ1 r (.rng 0 (cs.length : Int))) l (.list ((List.range cs.length).map fun i : Nat => V.int (i : Int))) = σ2 at *
  refine (fn_switch T (cnt := cs.length) (by rw [hbc]) h2 (by omega) BInv.zero el (h1.known_xs hl1) (by simpa using hlen) (by simp) fun st3 σ3 o3 h3 hi3 x3 => ?_).up (by decide)
  refine ⟨rfl, ?_⟩
  obtain ⟨fs3, i3, hfl3, hb3⟩ := h3.inst
  refine X_ret ?_
  refine E_vm T (by rfl) i3 (hb3.no _ (by decide)) (by rfl) (by rfl) (by rfl) ?_
  refine A_nil ?_
  have hba3 := h3.fresh b.ro (by simp [Bld.xs])
  refine (fn_finish T (cnt := cs.length) (by rw [hbc]) h3 (by omega) hi3 fun σ5 o5 o05 e5 => ?_).up (by decide)
  have hr3 := h3.rows.2
  have hc3 := h3.chains.2
  refine hP b.ro _ σ5 o05 hba3 e5 (blockOf hi3 (by omega) hlen (fun kd => ?_) (by omega) (by omega))
  obtain ⟨sec, e1, e2, e3, e4⟩ := x3.sec
  rw [e1, hbc] at *
  rw [List.nil_append]
  exact (e4 kd).up (by decide) XL.up
end
noncomputable abbrev Grp := Addr × List Nat
noncomputable abbrev gV' (gs : List Grp) : List V := gs.map fun g => V.obj g.1
noncomputable def glen (gs : List Grp) : Nat := (gs.map fun g => g.2.length).sum
structure GrpsOk (cnt : Nat) (gs : List Grp) (σ : AH) : Prop where
  each : ∀ g ∈ gs, σ g.1 = some (.list (nV g.2)) ∧ 1 ≤ g.2.length ∧ ∀ x ∈ g.2, x < cnt
theorem glen_snoc {gs : List Grp} {g : Grp} : glen (gs ++ [g]) = glen gs + g.2.length := by simp [glen]
theorem glen_ge {cnt : Nat} {gs : List Grp} {σ : AH} (h : GrpsOk cnt gs σ) : gs.length ≤ glen gs ∧ ∀ g ∈ gs, g.2.length ≤ glen gs := by
  have : ∀ gs : List Grp, (∀ g ∈ gs, 1 ≤ g.2.length) → gs.length ≤ glen gs ∧ ∀ g ∈ gs, g.2.length ≤ glen gs := by
    intro gs
    induction gs with
    | nil => intro _; exact ⟨by simp, by simp⟩
    | cons a r ih =>
      intro h
      obtain ⟨i1, i2⟩ := ih fun g hg => h g (List.mem_cons_of_mem _ hg)
      have ha := h a (by simp)
      have e : glen (a :: r) = a.2.length + glen r := by simp [glen]
      refine ⟨by rw [e, List.length_cons]; omega, fun g hg => ?_⟩
      rcases List.mem_cons.mp hg with rfl | hg
      · rw [e]; omega
      · have := i2 g hg; rw [e]; omega
  exact this gs fun g hg => (h.each g hg).2.1
theorem GrpsOk.oldX {cnt : Nat} {gs : List Grp} {σ σ' : AH} {X : List Addr} (h : GrpsOk cnt gs σ) (k : OldX X σ σ') (hX : ∀ g ∈ gs, g.1 ∉ X) : GrpsOk cnt gs σ' :=
  ⟨fun g hg => ⟨k _ _ (hX g hg) (h.each g hg).1, (h.each g hg).2⟩⟩

/-- the groups so far, and the run -/
structure GSt (σ0 : AH) (cnt : Nat) (G : Addr) (gs : List Grp) (r : Addr) (w : List Nat) (i : Nat) (σ : AH) : Prop where
  old : Old σ0 σ
  g0 : σ0 G = none
  r0 : σ0 r = none
  eG : σ G = some (.list (gV' gs))
  er : σ r = some (.list (nV w))
  ne : G ≠ r
  grp : GrpsOk cnt gs σ
  gG : ∀ g ∈ gs, g.1 ≠ G
  gr : ∀ g ∈ gs, g.1 ≠ r
  fr : ∀ g ∈ gs, σ0 g.1 = none
  wlt : ∀ x ∈ w, x < cnt
  tot : glen gs + w.length = i
theorem GSt.addG {σ0 : AH} {cnt : Nat} {G : Addr} {gs : List Grp} {r : Addr} {w : List Nat} {i j : Nat} {σ : AH} (h : GSt σ0 cnt G gs r w i σ) {q : Addr} {u : List Nat} (eq : σ q = some (.list (nV u))) (q0 : σ0 q = none) (qG : q ≠ G) (qr : q ≠ r) (hu : 1 ≤ u.length) (hul : ∀ x ∈ u, x < cnt) (hj : j = i + u.length) :
    GSt σ0 cnt G (gs ++ [(q, u)]) r w j (upd σ G (.list (gV' gs ++ [.obj q]))) := by
  have o : OldX [G] σ (upd σ G (.list (gV' gs ++ [.obj q]))) := (OldX.refl _ _).put (by simp)
  refine ⟨h.old.then o (by simp [h.g0]), h.g0, h.r0, by rw [upd_same]; simp, by rw [upd_other h.ne.symm]; exact h.er, h.ne, ⟨fun g hg => ?_⟩, fun g hg => ?_, fun g hg => ?_, fun g hg => ?_, h.wlt, ?_⟩
  · rcases List.mem_append.mp hg with hg | hg
    · exact (h.grp.oldX o (by intro g hg; simp; exact h.gG g hg)).each g hg
    · obtain rfl := List.mem_singleton.mp hg
      exact ⟨by rw [upd_other qG]; exact eq, hu, hul⟩
  · rcases List.mem_append.mp hg with hg | hg
    · exact h.gG g hg
    · obtain rfl := List.mem_singleton.mp hg; exact qG
  · rcases List.mem_append.mp hg with hg | hg
    · exact h.gr g hg
    · obtain rfl := List.mem_singleton.mp hg; exact qr
  · rcases List.mem_append.mp hg with hg | hg
    · exact h.fr g hg
    · obtain rfl := List.mem_singleton.mp hg; exact q0
  · rw [glen_snoc]; have := h.tot; dsimp only; omega
/-- a new list -/
theorem GSt.new {σ0 : AH} {cnt : Nat} {G : Addr} {gs : List Grp} {r : Addr} {w : List Nat} {i : Nat} {σ : AH} (h : GSt σ0 cnt G gs r w i σ) {q : Addr} {x : AObj} (hq : σ q = none) : GSt σ0 cnt G gs r w i (upd σ q x) := by
  have o : Old σ (upd σ q x) := (OldX.refl _ _).new hq
  exact ⟨h.old.trans o, h.g0, h.r0, upd_old hq h.eG, upd_old hq h.er, h.ne, h.grp.oldX o (by simp), h.gG, h.gr, h.fr, h.wlt, h.tot⟩
theorem GSt.close {σ0 : AH} {cnt : Nat} {G : Addr} {gs : List Grp} {r : Addr} {w : List Nat} {i : Nat} {σ : AH} (h : GSt σ0 cnt G gs r w i σ) {r2 : Addr} (hr : upd σ G (.list (gV' gs ++ [.obj r])) r2 = none) (hw : 1 ≤ w.length) :
    GSt σ0 cnt G (gs ++ [(r, w)]) r2 [] i (upd (upd σ G (.list (gV' gs ++ [.obj r]))) r2 (.list [])) := by
  have o : OldX [G] σ (upd σ G (.list (gV' gs ++ [.obj r]))) := (OldX.refl _ _).put (by simp)
  have o0 := h.old.then o (by simp [h.g0])
  have eG : upd σ G (.list (gV' gs ++ [.obj r])) G = some (.list (gV' (gs ++ [(r, w)]))) := by rw [upd_same]; simp
  have er : upd σ G (.list (gV' gs ++ [.obj r])) r = some (.list (nV w)) := by rw [upd_other h.ne.symm]; exact h.er
  have hg := h.grp.oldX o (by intro g hg; simp; exact h.gG g hg)
  generalize upd σ G (.list (gV' gs ++ [.obj r])) = σ1 at *
  have o2 : Old σ1 (upd σ1 r2 (.list [])) := (OldX.refl _ _).new hr
  refine ⟨o0.trans o2, h.g0, o0.none (by simp) hr, upd_old hr eG, upd_same _ _ _, ?_, ⟨fun g hg' => ?_⟩, fun g hg' => ?_, fun g hg' => ?_, fun g hg' => ?_, by simp, ?_⟩
  · rintro rfl; rw [eG] at hr; cases hr
  · rcases List.mem_append.mp hg' with hg' | hg'
    · exact (hg.oldX o2 (by simp)).each g hg'
    · obtain rfl := List.mem_singleton.mp hg'
      exact ⟨upd_old hr er, hw, h.wlt⟩
  · rcases List.mem_append.mp hg' with hg' | hg'
    · exact h.gG g hg'
    · obtain rfl := List.mem_singleton.mp hg'; exact h.ne.symm
  · rcases List.mem_append.mp hg' with hg' | hg'
    · rintro rfl; have := (hg.each g hg').1; rw [hr] at this; cases this
    · obtain rfl := List.mem_singleton.mp hg'
      rintro rfl; rw [er] at hr; cases hr
  · rcases List.mem_append.mp hg' with hg' | hg'
    · exact h.fr g hg'
    · obtain rfl := List.mem_singleton.mp hg'; exact h.r0
  · rw [glen_snoc]; have := h.tot; simp; omega
theorem GSt.addR {σ0 : AH} {cnt : Nat} {G : Addr} {gs : List Grp} {r : Addr} {w : List Nat} {i : Nat} {σ : AH} (h : GSt σ0 cnt G gs r w i σ) {x : Nat} (hx : x < cnt) :
    GSt σ0 cnt G gs r (w ++ [x]) (i + 1) (upd σ r (.list (nV w ++ [.int (x : Int)]))) := by
  have o : OldX [r] σ (upd σ r (.list (nV w ++ [.int (x : Int)]))) := (OldX.refl _ _).put (by simp)
  refine ⟨h.old.then o (by simp [h.r0]), h.g0, h.r0, by rw [upd_other h.ne]; exact h.eG, by rw [upd_same]; simp, h.ne, h.grp.oldX o (by intro g hg; simp; exact h.gr g hg), h.gG, h.gr, h.fr, ?_, ?_⟩
  · intro y hy
    rcases List.mem_append.mp hy with hy | hy
    · exact h.wlt y hy
    · rw [List.mem_singleton.mp hy]; exact hx
  · have := h.tot; simp; omega

section
variable {C : Cx} {n : Nat} {env : Env} {m : Vars} {σ σ0 : AH} {P : V → AH → Prop} {sc : Scope}

theorem fn_groups (T : Tx C) {L : Addr} {cs : List Code} (hc : CodesOk σ L cs)
    (hP : ∀ G gs σ', Old σ σ' → σ G = none → (∀ g ∈ gs, σ g.1 = none) → σ' G = some (.list (gV' gs)) → GrpsOk cs.length gs σ' → glen gs = cs.length → P (.obj G) σ') : Fn C 1 301 [.obj L] σ P := by
  walk_at "fn"
  intro env hs hcl
  have hlen := hc.len
  refine X_assign (by walk_at "sto") ?_
  refine E_list T.ok ?_
  refine A_nil ⟨by simp, fun G hG => ?_⟩
  refine X_assign (by walk_at "sto") ?_
  refine E_list T.ok ?_
  refine A_nil ⟨by simp, fun r hr => ?_⟩
  have nGr : G ≠ r := by rintro rfl; rw [upd_same] at hr; cases hr
  have hr0 : σ r = none := by
    cases e : σ r with
    | none => rfl
    | some z => rw [upd_old hG e] at hr; cases hr
  have s0 : GSt σ cs.length G [] r [] 0 (upd (upd σ G (.list [])) r (.list [])) := by
    refine ⟨((OldX.refl _ _).new hG).new hr, hG, hr0, by rw [upd_other nGr]; exact upd_same _ _ _, upd_same _ _ _, nGr, ⟨by simp⟩, by simp, by simp, by simp, by simp, by simp [glen]⟩
  have o1 : Old σ (upd (upd σ G (.list [])) r (.list [])) := s0.old
  generalize upd (upd σ G (.list [])) r (.list []) = σ1 at *
  refine X_forE (ι := List Grp × Addr × List Nat) (by walk_at "sto") ?_
  walk_at "blt"
  refine A_cons ?_
  walk_at "blt"
  walk_at "a"
  refine cv_len (hc.old o1).list (by simp; omega) ?_
  refine A_nil ?_
  refine cv_range1 T.ok fun rr hrr => ?_
  rw [List.length_map]
  refine ⟨fun g rest σ' => ∃ i, rest = (rngItems 0 (cs.length : Int)).drop i ∧ i ≤ cs.length ∧ GSt σ cs.length G g.1 g.2.1 g.2.2 i σ',
    fun g => [("run", .obj g.2.1), ("groups", .obj G), ("codes", .obj L)], rngItems 0 (cs.length : Int), fun _ => True, ([], r, []), src_rng (upd_same _ _ _) (by omega) (by omega) (by omega) (by omega), trivial, by walk_at "sub", ⟨0, rfl, Nat.zero_le _, s0.new hrr⟩, ?_, ?_⟩
  · rintro ⟨gs, r, w⟩ v rest σ2 ⟨i, hrest, hi, S⟩ _
    refine Ex.gen fun PL ln => ?_
    dsimp only at S
    obtain ⟨hv, hrest2⟩ := drop_cons hrest
    obtain ⟨hil, rfl⟩ := rng_get hv
    obtain ⟨c, hci, _⟩ := drop_head (l := cs) hil
    have hc2 := hc.old S.old
    have hgl := (glen_ge S.grp).1
    have htot := S.tot
    refine X_if ?_
    refine T_cmp ?_
    refine E_ckey T (by rfl) (by rfl) hc2 hci ?_
    walk_at "v"
    refine op_eq (hc.each i c hci).key.nb rfl ⟨_, rfl, fun _ => ?_, fun _ => ?_⟩
    · refine X_ifJ (ι := List Grp × Addr × List Nat) (fun g σ' => GSt σ cs.length G g.1 g.2.1 g.2.2 i σ' ∧ g.2.2 = []) (fun g => [("place", .int (i : Int)), ("run", .obj g.2.1), ("groups", .obj G), ("codes", .obj L)]) ?_ ?_
      · refine fun PJ jn jo => ?_
        refine T_cmp ?_
        walk_at "blt"
        walk_at "a"
        refine cv_len S.er (by simp; omega) ?_
        walk_at "v"
        refine op_gt ⟨_, rfl, fun q => ?_, fun q => ?_⟩
        · have q := dt q
          rw [List.length_map] at q
          refine X_expr ?_
          refine E_append T.ok ?_
          walk_at "v"
          refine ⟨G, rfl, ⟨_, S.eG⟩, ?_⟩
          walk_at "v"
          refine ⟨_, S.eG, by simp; omega, rfl, ?_⟩
          refine X_assign (by walk_at "sto") ?_
          refine E_list T.ok ?_
          refine A_nil ⟨by simp, fun r2 hr2 => ?_⟩
          refine X_nil (jn (gs ++ [(r, w)], r2, []) _ _ (by walk_at "sub") ⟨S.close hr2 (by omega), rfl⟩)
        · have q := df q
          rw [List.length_map] at q
          have hw : w = [] := by cases w with
            | nil => rfl
            | cons a r => simp at q
          subst hw
          exact X_nil (jn (gs, r, []) _ _ (by walk_at "sub") ⟨S, rfl⟩)
      · rintro ⟨gs2, r2, w2⟩ σ3 ⟨S3, hw2⟩
        dsimp only at S3 hw2
        subst hw2
        have hgl3 := (glen_ge S3.grp).1
        have htot3 := S3.tot
        refine X_expr ?_
        refine E_append T.ok ?_
        walk_at "v"
        refine ⟨G, rfl, ⟨_, S3.eG⟩, ?_⟩
        refine E_list T.ok ?_
        refine A_cons ?_
        refine E_var (v := .int (i : Int)) (by rfl) ?_
        refine A_nil ⟨by simp, fun q hq => ?_⟩
        have S4 := S3.new hq (x := .list [.int (i : Int)])
        have eq : upd σ3 q (.list [.int (i : Int)]) q = some (.list (nV [i])) := upd_same _ _ _
        have q0 : σ q = none := S3.old.none (by simp) hq
        have qG : q ≠ G := by rintro rfl; rw [S3.eG] at hq; cases hq
        have qr : q ≠ r2 := by rintro rfl; rw [S3.er] at hq; cases hq
        refine ⟨_, S4.eG, by simp; omega, rfl, X_nil (X_nil (ln _ _ _ ⟨trivial, (gs2 ++ [(q, [i])], r2, []), by walk_at "sub", i + 1, hrest2, hil, ?_⟩))⟩
        exact S4.addG eq q0 qG qr (by simp) (by simp [hil]) (by simp)
    · refine X_expr ?_
      refine E_append T.ok ?_
      walk_at "v"
      refine ⟨r, rfl, ⟨_, S.er⟩, ?_⟩
      refine E_var (v := .int (i : Int)) (by rfl) ?_
      exact ⟨_, S.er, by simp; omega, rfl, X_nil (X_nil (ln _ _ _ ⟨trivial, (gs, r, w ++ [i]), by walk_at "sub", i + 1, hrest2, hil, S.addR hil⟩))⟩
  · rintro ⟨gs, r, w⟩ σ2 ⟨i, hrest, hi, S⟩ _
    dsimp only at S
    have hgl := (glen_ge S.grp).1
    have htot := S.tot
    have hic : i = cs.length := by
      have := drop_nil hrest (by rw [rng_len]; exact hi)
      rw [rng_len] at this; exact this
    refine X_ifJ (ι := List Grp) (fun gs' σ' => Old σ σ' ∧ (∀ g ∈ gs', σ g.1 = none) ∧ σ' G = some (.list (gV' gs')) ∧ GrpsOk cs.length gs' σ' ∧ glen gs' = cs.length) (fun _ => [("groups", .obj G)]) ?_ ?_
    · refine fun PJ jn jo => ?_
      refine T_cmp ?_
      walk_at "blt"
      walk_at "a"
      refine cv_len S.er (by simp; omega) ?_
      walk_at "v"
      refine op_gt ⟨_, rfl, fun q => ?_, fun q => ?_⟩
      · have q := dt q
        rw [List.length_map] at q
        refine X_expr ?_
        refine E_append T.ok ?_
        walk_at "v"
        refine ⟨G, rfl, ⟨_, S.eG⟩, ?_⟩
        walk_at "v"
        have o : OldX [G] σ2 (upd σ2 G (.list (gV' gs ++ [.obj r]))) := (OldX.refl _ _).put (by simp)
        refine ⟨_, S.eG, by simp; omega, rfl, X_nil (jn (gs ++ [(r, w)]) _ _ (by walk_at "sub") ⟨S.old.then o (by simp [S.g0]), ?_, by rw [upd_same]; simp, ⟨fun g hg => ?_⟩, by rw [glen_snoc]; dsimp only; omega⟩)⟩
        · intro g hg
          rcases List.mem_append.mp hg with hg | hg
          · exact S.fr g hg
          · obtain rfl := List.mem_singleton.mp hg; exact S.r0
        · rcases List.mem_append.mp hg with hg | hg
          · exact (S.grp.oldX o (by intro g hg; simp; exact S.gG g hg)).each g hg
          · obtain rfl := List.mem_singleton.mp hg
            exact ⟨by rw [upd_other S.ne.symm]; exact S.er, by dsimp only; omega, S.wlt⟩
      · have q := df q
        rw [List.length_map] at q
        exact X_nil (jn gs _ _ (by walk_at "sub") ⟨S.old, S.fr, S.eG, S.grp, by omega⟩)
    · rintro gs' σ3 ⟨o, fr, eG, hg, ht⟩
      refine X_ret ?_
      walk_at "v"
      exact hP G gs' σ3 o hG fr eG hg ht
end
/-- the labels of the groups: a lone clause's place, or a label of its own -/
noncomputable def glabs (next : Int) : List Grp → List Int
  | [] => []
  | g :: r => if g.2.length = 1 then ((((g.2[0]?).getD 0 : Nat) : Int) :: glabs next r) else (next :: glabs (next + 1) r)
noncomputable def gcount : List Grp → Int
  | [] => 0
  | g :: r => if g.2.length = 1 then gcount r else gcount r + 1
theorem gcount_nonneg : ∀ gs, 0 ≤ gcount gs
  | [] => by decide
  | g :: r => by
    have := gcount_nonneg r
    simp only [gcount]; split <;> omega
theorem glabs_len : ∀ (gs : List Grp) (nx : Int), (glabs nx gs).length = gs.length
  | [], _ => rfl
  | g :: r, nx => by simp only [glabs]; split <;> simp [glabs_len r]
theorem glabs_snoc : ∀ (gs : List Grp) (nx : Int) (g : Grp), glabs nx (gs ++ [g]) = glabs nx gs ++ (if g.2.length = 1 then [(((g.2[0]?).getD 0 : Nat) : Int)] else [nx + gcount gs])
  | [], nx, g => by simp [glabs, gcount]
  | a :: r, nx, g => by
    simp only [List.cons_append, glabs, gcount]
    split
    · rw [glabs_snoc r]; simp
    · rw [glabs_snoc r]
      have : nx + 1 + gcount r = nx + (gcount r + 1) := by omega
      rw [this]; simp
theorem gcount_snoc : ∀ (gs : List Grp) (g : Grp), gcount (gs ++ [g]) = gcount gs + (if g.2.length = 1 then 0 else 1)
  | [], g => by simp only [List.nil_append, gcount]; split <;> rfl
  | a :: r, g => by
    simp only [List.cons_append, gcount, gcount_snoc r]
    split <;> split <;> omega
theorem gcount_take_le (gs : List Grp) {i j : Nat} (h : i ≤ j) : gcount (gs.take i) ≤ gcount (gs.take j) := by
  induction j with
  | zero => obtain rfl : i = 0 := by omega
            exact Int.le_refl _
  | succ j ih =>
    rcases Nat.lt_or_ge i (j + 1) with q | q
    · have h1 := ih (by omega)
      cases e : gs[j]? with
      | none =>
        have : gs.take (j + 1) = gs.take j := by
          have hl := List.getElem?_eq_none_iff.mp e
          rw [List.take_of_length_le hl, List.take_of_length_le (by omega)]
        rw [this]; exact h1
      | some g => rw [take_succ e, gcount_snoc]; split <;> omega
    · obtain rfl : i = j + 1 := by omega
      exact Int.le_refl _
theorem glabs_get {gs : List Grp} {nx : Int} {i : Nat} {g : Grp} (h : gs[i]? = some g) : (glabs nx gs)[i]? = some (if g.2.length = 1 then (((g.2[0]?).getD 0 : Nat) : Int) else nx + gcount (gs.take i)) := by
  have hlt := (List.getElem?_eq_some_iff.mp h).1
  have e1 : gs = gs.take (i + 1) ++ gs.drop (i + 1) := (List.take_append_drop _ _).symm
  have key : ∀ (a b : List Grp) (nx : Int), (glabs nx (a ++ b))[a.length - 1]? = (glabs nx a)[a.length - 1]? ∨ a = [] := by
    intro a b
    induction a with
    | nil => intro nx; exact .inr rfl
    | cons x r ih =>
      intro nx
      refine .inl ?_
      cases r with
      | nil => simp only [List.cons_append, List.nil_append, glabs, List.length_singleton]; split <;> rfl
      | cons y r =>
        have hh : ∀ nx, (glabs nx (y :: r ++ b))[(y :: r).length - 1]? = (glabs nx (y :: r))[(y :: r).length - 1]? := fun nx => by
          rcases ih nx with q | q
          · exact q
          · cases q
        have e2 : (x :: y :: r).length - 1 = ((y :: r).length - 1) + 1 := by simp
        rw [e2]
        simp only [List.cons_append, glabs]
        by_cases hx : x.2.length = 1
        · simp only [hx, if_true, List.getElem?_cons_succ]
          have := hh nx; simp only [List.cons_append, glabs] at this; exact this
        · simp only [hx, if_false, List.getElem?_cons_succ]
          have := hh (nx + 1); simp only [List.cons_append, glabs] at this; exact this
  have hl : (gs.take (i + 1)).length = i + 1 := by rw [List.length_take]; omega
  rcases key (gs.take (i + 1)) (gs.drop (i + 1)) nx with q | q
  · rw [← e1, hl] at q
    show (glabs nx gs)[i + 1 - 1]? = _
    rw [q, take_succ h, glabs_snoc]
    have hl2 : (glabs nx (gs.take i)).length = i := by rw [glabs_len, List.length_take]; omega
    rw [List.getElem?_append_right (by omega)]
    have : i + 1 - 1 - (glabs nx (gs.take i)).length = 0 := by omega
    rw [this]
    split <;> rfl
  · rw [q] at hl; simp at hl
/-- the groups that are placed, the labels that are free yet -/
structure GP (cnt : Nat) (ks : List PyData) (ar : Int) (gs : List Grp) (ls : List Int) (j : Nat) (st : BSt) : Prop where
  ex : ∃ secs, st.rows = crow ar ls ++ secs ∧ ∀ (i : Nat) (g : Grp) (l : Int), i < j → gs[i]? = some g → ls[i]? = some l → 1 < g.2.length → ∃ pre suf, secs = pre ++ .lab l :: suf ∧ ∀ kd, Safe (XL cnt st.chains) cnt ks kd 4 (.lab l :: suf)
  free : ∀ (i : Nat) (g : Grp) (l : Int), j ≤ i → gs[i]? = some g → ls[i]? = some l → 1 < g.2.length → Fr1 cnt l st ∧ l ∉ labs st.rows

theorem XL.app {cnt : Nat} {ch nw : List (Int × List Nat)} {b : Nat} {l : Int} (h : XL cnt ch b l) : XL cnt (ch ++ nw) b l := by
  rcases h with h | ⟨w, hw, hl⟩
  · exact .inl h
  · exact .inr ⟨w, List.mem_append.mpr (.inl hw), hl⟩
theorem GP.skip {cnt : Nat} {ks : List PyData} {ar : Int} {gs : List Grp} {ls : List Int} {j : Nat} {st : BSt} (h : GP cnt ks ar gs ls j st) {g : Grp} (hg : gs[j]? = some g) (h1 : ¬ 1 < g.2.length) : GP cnt ks ar gs ls (j + 1) st := by
  obtain ⟨secs, e, q⟩ := h.ex
  refine ⟨⟨secs, e, fun i g' l hi hg' hl h2 => ?_⟩, fun i g' l hi => h.free i g' l (by omega)⟩
  rcases Nat.lt_or_ge i j with z | z
  · exact q i g' l z hg' hl h2
  · obtain rfl : i = j := by omega
    rw [hg] at hg'; cases hg'; exact absurd h2 h1
theorem GP.place {cnt : Nat} {ks : List PyData} {ar : Int} {gs : List Grp} {ls : List Int} {j : Nat} {st st' : BSt} (h : GP cnt ks ar gs ls j st) {g : Grp} {l : Int} (hg : gs[j]? = some g) (hl : ls[j]? = some l) (h1 : 1 < g.2.length)
    (hdist : ∀ (i : Nat) (g' : Grp) (l' : Int), j < i → gs[i]? = some g' → ls[i]? = some l' → 1 < g'.2.length → l' ≠ l) (x : SwExt cnt ks { st with rows := st.rows ++ [.lab l] } st') : GP cnt ks ar gs ls (j + 1) st' := by
  obtain ⟨secs, e, q⟩ := h.ex
  obtain ⟨nx, ⟨nw, ech, qch⟩, sec, er, hsl, hlab, hsafe⟩ := x
  dsimp only at nx ech qch er hlab
  obtain ⟨fl, nl⟩ := h.free j g l (Nat.le_refl _) hg hl h1
  refine ⟨⟨secs ++ (.lab l :: sec), by rw [er, e]; simp, fun i g' l' hi hg' hl' h2 => ?_⟩, fun i g' l' hi hg' hl' h2 => ?_⟩
  · rcases Nat.lt_or_ge i j with z | z
    · obtain ⟨pre, suf, e1, s1⟩ := q i g' l' z hg' hl' h2
      refine ⟨pre, suf ++ (.lab l :: sec), by rw [e1]; simp, fun kd => ?_⟩
      have := (s1 kd).app (more := .lab l :: sec) (Y := XL cnt st'.chains) fun b l hb hX => ⟨hb, .inr (.inl (by rw [ech]; exact hX.app))⟩
      exact this
    · obtain rfl : i = j := by omega
      rw [hl] at hl'; cases hl'
      exact ⟨secs, sec, rfl, fun kd => Safe.intro ⟨by decide, .inr ⟨fl.ge, hsafe kd⟩⟩⟩
  · obtain ⟨f2, n2⟩ := h.free i g' l' (by omega) hg' hl' h2
    have hlt := f2.lt
    refine ⟨⟨f2.ge, by omega, ?_⟩, ?_⟩
    · rw [ech, List.map_append]
      intro hm
      rcases List.mem_append.mp hm with hm | hm
      · exact f2.no hm
      · obtain ⟨p, hp, e3⟩ := List.mem_map.mp hm
        have := qch p hp; omega
    · rw [er, labs_app, labs_app]
      intro hm
      rcases List.mem_append.mp hm with hm | hm
      · rcases List.mem_append.mp hm with hm | hm
        · exact n2 hm
        · have : l' = l := by simpa [labs] using hm
          exact hdist i g' l' (by omega) hg' hl' h2 this
      · have := hlab l' hm; omega
section
variable {C : Cx} {n : Nat} {env : Env} {m : Vars} {σ σ0 : AH} {P : V → AH → Prop} {sc : Scope}

theorem fn_group_block (T : Tx C) {s : Sym} {rows : List (Int × Int)} {k i : Nat} {L : Addr} {cs : List Code} (hS : SymOk σ s rows k) (hkk : k ≤ 1000) (hi : i < rows.length) (hc : CodesOk σ L cs)
    (hP : ∀ a full σ', Old σ σ' → σ a = none → σ' a = some (.list (dats (full.map Row.d))) → BlockOk cs.length (keysOf cs) full → P (.obj a) σ') : Fn C 7 308 [.obj s.a, .int (i : Int), .obj L] σ P := by
  walk_at "fn"
  intro env hs hcl
  have hlen := hc.len
  refine X_if ?_
  refine T_cmp ?_
  walk_at "blt"
  walk_at "a"
  refine cv_len hc.list (by simp; omega) ?_
  walk_at "v"
  rw [List.length_map]
  refine op_lt ⟨_, rfl, fun q => ?_, fun q => ?_⟩
  · have q := dt q
    refine X_ret ?_
    walk_at "call"
    walk_at "a"
    refine (fn_small T hc fun a σ' full o ha e hf => ?_).up (by decide)
    refine hP a full σ' o ha e ⟨?_, ?_, fun h => by omega, fun _ => hf, by rcases hf with rfl | rfl <;> simp [Row.tl]⟩
    · rcases hf with rfl | rfl <;> decide
    · rcases hf with rfl | rfl <;> simp [labs]
  have q := df q
  refine X_nil ?_
  refine X_if ?_
  refine T_or ?_
  refine T_cmp ?_
  refine E_vm T (by rfl) hS.inst (by rfl) (by rfl) (by rfl) (by rfl) ?_
  walk_at "a"
  refine (fn_arity T hS hkk hi fun y => ?_).up (by decide)
  walk_at "v"
  refine op_eq rfl rfl ⟨_, rfl, fun _ => ⟨fun _ => ?_, fun e => by cases e⟩, fun _ => ?_⟩
  · refine X_ret ?_
    walk_at "call"
    walk_at "a"
    exact (fn_chain_block T hS hkk hi hc hP).up (by decide)
  refine T_of ?_
  walk_at "call"
  walk_at "a"
  refine (fn_allvar T hc fun av => ?_).up (by decide)
  refine truthy_bool ⟨fun _ => ?_, fun _ => X_nil ?_⟩
  · refine X_ret ?_
    walk_at "call"
    walk_at "a"
    exact (fn_chain_block T hS hkk hi hc hP).up (by decide)
  refine X_assign (by walk_at "sto") ?_
  refine E_mkB T hs (by rfl) (by rfl) (by rfl) (by rfl) hS hkk hi hc (fun b ar σ1 hbc hba o1 h1 => ?_) (by rfl)
  have hc1 := hc.old o1
  refine X_assign (by walk_at "sto") ?_
  walk_at "call"
  walk_at "a"
  refine (fn_groups T hc1 fun G gs σ2 o2 hG hgf eG hgr htot => ?_).up (by decide)
  have h2 := h1.old' o2
  have hgx : ∀ g ∈ gs, g.1 ∉ b.xs := fun g hg => h1.known_xs (hgf g hg)
  have hGx : G ∉ b.xs := h1.known_xs hG
  obtain ⟨hgl1, hgl2⟩ := glen_ge hgr
  have hgn : gs.length ≤ 4 := by omega
  have hg4 : ∀ g ∈ gs, g.2.length ≤ 4 := fun g hg => by have := hgl2 g hg; omega
  refine X_if ?_
  refine T_cmp ?_
  walk_at "blt"
  walk_at "a"
  refine cv_len eG (by simp; omega) ?_
  walk_at "v"
  refine op_eq rfl rfl ⟨_, rfl, fun q1 => ?_, fun q1 => ?_⟩
  · have q1 := dt q1
    have hg1 : gs.length = 1 := by
      rw [List.length_map] at q1; injection q1 with q1; omega
    obtain ⟨g, hg0, _⟩ := drop_head (l := gs) (p := 0) (by omega)
    have hgm := List.mem_of_getElem? hg0
    have hge := hgr.each g hgm
    obtain ⟨fs, ii, hfl, hb⟩ := h2.inst
    refine X_expr ?_
    refine E_vm T (by rfl) ii (hb.no _ (by decide)) (by rfl) (by rfl) (by rfl) ?_
    refine A_cons ?_
    refine E_sub ?_
    walk_at "v"
    walk_at "v"
    refine op_item_list (k := 0) (v := .obj g.1) eG (by decide) (by rw [List.getElem?_map, hg0]; rfl) ?_
    refine A_nil ?_
    refine (fn_switch T (cnt := cs.length) (by rw [hbc]) h2 (by omega) BInv.zero hge.1 (hgx g hgm) (hg4 g hgm) hge.2.2 fun st3 σ3 o3 h3 hi3 x3 => ?_).up (by decide)
    refine ⟨rfl, ?_⟩
    obtain ⟨fs3, i3, hfl3, hb3⟩ := h3.inst
    refine X_ret ?_
    refine E_vm T (by rfl) i3 (hb3.no _ (by decide)) (by rfl) (by rfl) (by rfl) ?_
    refine A_nil ?_
    have hba3 := h3.fresh b.ro (by simp [Bld.xs])
    refine (fn_finish T (cnt := cs.length) (by rw [hbc]) h3 (by omega) hi3 fun σ5 o5 o05 e5 => ?_).up (by decide)
    have hr3 := h3.rows.2
    have hc3 := h3.chains.2
    refine hP b.ro _ σ5 o05 hba3 e5 (blockOf hi3 (by omega) hlen (fun kd => ?_) (by omega) (by omega))
    obtain ⟨sec, e1, e2, e3, e4⟩ := x3.sec
    rw [e1, hbc] at *
    rw [List.nil_append]
    exact (e4 kd).up (by decide) XL.up
  have q1 := df q1
  have hg2 : 2 ≤ gs.length := by
    rcases Nat.lt_or_ge gs.length 2 with z | z
    · exfalso
      rcases Nat.eq_zero_or_pos gs.length with z0 | z0
      · have : gs = [] := List.eq_nil_of_length_eq_zero z0
        rw [this] at htot; simp [glen] at htot; omega
      · exact q1 (by rw [List.length_map, show gs.length = 1 by omega]; rfl)
    · exact z
  refine X_nil ?_
  refine X_assign (by walk_at "sto") ?_
  refine E_list T.ok ?_
  refine A_nil ⟨by simp, fun Lb hLb => ?_⟩
  have Lbx := h2.known_xs hLb
  have LbG : Lb ≠ G := by rintro rfl; rw [eG] at hLb; cases hLb
  have Lbg : ∀ g ∈ gs, g.1 ≠ Lb := by intro g hg e; have := (hgr.each g hg).1; rw [e, hLb] at this; cases this
  have Lb0 : σ Lb = none := (o1.trans o2).none (by simp) hLb
  have o3 : Old σ2 (upd σ2 Lb (.list [])) := (OldX.refl _ _).new hLb
  have h3 := h2.old' o3
  have eG3 := o3 _ _ (by simp) eG
  have eL3 : upd σ2 Lb (.list []) Lb = some (.list (iV (glabs (cs.length : Int) (gs.take 0)))) := by rw [upd_same]; rfl
  have hgr3 := hgr.oldX o3 (by simp)
  generalize upd σ2 Lb (.list []) = σ3 at *
  -- the labels
  refine X_forI (fun j σ' => OldX (Lb :: b.xs) σ3 σ' ∧ σ' Lb = some (.list (iV (glabs (cs.length : Int) (gs.take j)))) ∧ BOk σ b ar (10 + j) ⟨[], [], (cs.length : Int) + gcount (gs.take j)⟩ σ') [("labels", .obj Lb), ("groups", .obj G), ("builder", .obj b.a)] (by walk_at "sto") ?_
  walk_at "v"
  refine ⟨gV' gs, _, src_list eG3, eG3, by walk_at "sub", ⟨OldX.refl _ _, eL3, by simpa [gcount] using h3⟩, ?_, ?_⟩
  · rintro j v σ4 hj ⟨o4, eL4, h4⟩ eG4
    refine Ex.gen fun PL ln => ?_
    rw [List.getElem?_map] at hj
    obtain ⟨g, hg, rfl⟩ := Option.map_eq_some_iff.mp hj
    have hgm := List.mem_of_getElem? hg
    have hjl := (List.getElem?_eq_some_iff.mp hg).1
    have eg4 : σ4 g.1 = some (.list (nV g.2)) := o4 _ _ (by simp [Lbg g hgm, hgx g hgm]) (hgr3.each g hgm).1
    have hlt : (glabs (cs.length : Int) (gs.take j)).length ≤ 4 := by rw [glabs_len, List.length_take]; omega
    have hg1 := (hgr3.each g hgm).2.1
    refine X_if ?_
    refine T_cmp ?_
    walk_at "blt"
    walk_at "a"
    refine cv_len eg4 (by have := hg4 g hgm; simp; omega) ?_
    walk_at "v"
    refine op_eq rfl rfl ⟨_, rfl, fun q2 => ?_, fun q2 => ?_⟩
    · have q2 := dt q2
      have hl1 : g.2.length = 1 := by rw [List.length_map] at q2; injection q2 with q2; omega
      obtain ⟨x, hx, _⟩ := drop_head (l := g.2) (p := 0) (by omega)
      refine X_expr ?_
      refine E_append T.ok ?_
      walk_at "v"
      refine ⟨Lb, rfl, ⟨_, eL4⟩, ?_⟩
      refine E_sub ?_
      walk_at "v"
      walk_at "v"
      refine op_item_list (k := 0) (v := .int (x : Int)) eg4 (by decide) (by rw [List.getElem?_map, hx]; rfl) ?_
      have oL : OldX [Lb] σ4 (upd σ4 Lb (.list (iV (glabs (cs.length : Int) (gs.take j)) ++ [.int (x : Int)]))) := (OldX.refl _ _).put (by simp)
      refine ⟨_, eL4, by simp; omega, rfl, X_nil (X_nil (ln _ _ _ ⟨?_, by walk_at "sub", o4.trans (oL.mono (by simp)), ?_, ?_⟩))⟩
      · rw [upd_other LbG.symm]; exact eG4
      · rw [upd_same, take_succ hg, glabs_snoc, if_pos hl1, hx]; simp [iV]
      · rw [take_succ hg, gcount_snoc, if_pos hl1, Int.add_zero]
        exact (h4.oldX oL (by simpa using Lbx) (by simpa using Lb0)).mono (by omega)
    · have q2 := df q2
      have hl1 : ¬ g.2.length = 1 := by intro z; rw [List.length_map, z] at q2; exact q2 rfl
      obtain ⟨fs, ii, hfl, hb⟩ := h4.inst
      refine X_expr ?_
      refine E_append T.ok ?_
      walk_at "v"
      refine ⟨Lb, rfl, ⟨_, eL4⟩, ?_⟩
      refine E_vm T (by rfl) ii (hb.no _ (by decide)) (by rfl) (by rfl) (by rfl) ?_
      refine A_nil ?_
      refine (fn_fresh T h4 (by omega) fun σ5 o5 h5 => ?_).up (by decide)
      have o5x : OldX b.xs σ4 σ5 := o5.mono (by intro z hz; rw [List.mem_singleton.mp hz]; simp [Bld.xs])
      have eL5 := o5x _ _ Lbx eL4
      have oL : OldX [Lb] σ5 (upd σ5 Lb (.list (iV (glabs (cs.length : Int) (gs.take j)) ++ [.int ((cs.length : Int) + gcount (gs.take j))]))) := (OldX.refl _ _).put (by simp)
      refine ⟨_, eL5, by simp; omega, rfl, X_nil (X_nil (ln _ _ _ ⟨?_, by walk_at "sub", (o4.trans (o5x.mono (by intro z hz; simp [hz]))).trans (oL.mono (by simp)), ?_, ?_⟩))⟩
      · rw [upd_other LbG.symm]; exact o5x _ _ hGx eG4
      · rw [upd_same, take_succ hg, glabs_snoc, if_neg hl1]; simp [iV]
      · rw [take_succ hg, gcount_snoc, if_neg hl1]
        have := (h5.oldX oL (by simpa using Lbx) (by simpa using Lb0)).mono (m' := 10 + (j + 1)) (by omega)
        dsimp only at this
        rw [show (cs.length : Int) + gcount (gs.take j) + 1 = (cs.length : Int) + (gcount (gs.take j) + 1) by omega] at this
        exact this
  · rintro σ4 ⟨o4, eL4, h4⟩ eG4
    simp only [List.length_map, List.take_length] at eL4 h4
    have hgr4 := hgr3.oldX o4 (by intro g hg; simp [Lbg g hg, hgx g hg])
    have hls : (glabs (cs.length : Int) gs).length = gs.length := glabs_len _ _
    have hglab : ∀ (i : Nat) (g : Grp) (l : Int), gs[i]? = some g → (glabs (cs.length : Int) gs)[i]? = some l → 1 < g.2.length → l = (cs.length : Int) + gcount (gs.take i) := by
      intro i g l hg hl h1
      rw [glabs_get hg, if_neg (by omega)] at hl
      exact (Option.some.inj hl).symm
    have hgstep : ∀ (i : Nat) (g : Grp), gs[i]? = some g → 1 < g.2.length → gcount (gs.take i) + 1 ≤ gcount gs ∧ ∀ i', i < i' → gcount (gs.take i) + 1 ≤ gcount (gs.take i') := by
      intro i g hg h1
      have e : gcount (gs.take (i + 1)) = gcount (gs.take i) + 1 := by rw [take_succ hg, gcount_snoc, if_neg (by omega)]
      have hil := (List.getElem?_eq_some_iff.mp hg).1
      refine ⟨?_, fun i' hi' => by rw [← e]; exact gcount_take_le gs hi'⟩
      have := gcount_take_le gs (show i + 1 ≤ gs.length by omega)
      rw [List.take_length] at this; omega
    generalize hLS : glabs (cs.length : Int) gs = ls at *
    -- the rows of the head
    obtain ⟨fs, ii, hfl, hb⟩ := h4.inst
    refine X_addRows T (b := b) (σ0 := σ) (ar := ar) [("labels", .obj Lb), ("groups", .obj G), ("builder", .obj b.a)] (by rfl) (by rfl) (by rfl) (by walk_at "sub") (by walk_at "sto") ?_
    refine E_vm T (by rfl) ii (hb.no _ (by decide)) (by rfl) (by rfl) (by rfl) ?_
    walk_at "a"
    refine (fn_chain_rows T (ls := ls) h4 (.inr ⟨Lb, rfl, eL4⟩) (by omega) (by omega) fun q5 σ5 o5 hq5 eq5 => ?_).up (by decide)
    have hcr : (crow ar ls).length ≤ 4 := by rw [crow_len (by omega)]; omega
    refine ⟨q5, _, _, _, rfl, eq5, h4.known_xs hq5, by omega, h4.old' o5, fun σ6 o6 h6 => ?_⟩
    have o46 : OldX b.xs σ4 σ6 := o5.x.trans o6
    have eL6 := o46 _ _ Lbx eL4
    have eG6 := o46 _ _ hGx eG4
    have hgr6 := hgr4.oldX o46 hgx
    have hcount := gcount_nonneg gs
    have hinv6 : BInv cs.length { (⟨[], [], (cs.length : Int) + gcount gs⟩ : BSt) with rows := ([] : List Row) ++ crow ar ls } := by
      refine ⟨by simp, ?_, ?_, by dsimp only; omega, fun r hr => tl_crow r (by simpa using hr)⟩
      · intro l hl; simp [labs_crow] at hl
      · simp [labs_crow]
    have hgp6 : GP cs.length (keysOf cs) ar gs ls 0 { (⟨[], [], (cs.length : Int) + gcount gs⟩ : BSt) with rows := ([] : List Row) ++ crow ar ls } := by
      refine ⟨⟨[], by simp, fun i g l hi => by omega⟩, fun i g l _ hg hl h1 => ?_⟩
      have e := hglab i g l hg hl h1
      have h2 := (hgstep i g hg h1).1
      have h3 := gcount_nonneg (gs.take i)
      refine ⟨⟨by omega, by dsimp only; omega, by simp⟩, by simp [labs_crow]⟩
    have h6' := h6.mono (m' := 60) (by omega)
    refine X_forN (fun j σ' => OldX b.xs σ6 σ' ∧ ∃ st', BOk σ b ar (60 + 41 * j) st' σ' ∧ BInv cs.length st' ∧ GP cs.length (keysOf cs) ar gs ls j st') [("labels", .obj Lb), ("groups", .obj G), ("builder", .obj b.a)] (by walk_at "sto") ?_
    walk_at "blt"
    refine A_cons ?_
    walk_at "blt"
    walk_at "a"
    refine cv_len eG6 (by simp; omega) ?_
    refine A_nil ?_
    refine cv_range1 T.ok fun r hr => ?_
    rw [List.length_map]
    have orr : Old σ6 (upd σ6 r (.rng 0 (gs.length : Int))) := (OldX.refl _ _).new hr
    refine ⟨r, gs.length, rfl, upd_same _ _ _, by omega, by walk_at "sub", ⟨orr.x, _, h6'.old' orr, hinv6, hgp6⟩, ?_, ?_⟩
    · rintro j σ7 hj ⟨o7, st7, h7, hi7, gp7⟩
      refine Ex.gen fun PL ln => ?_
      obtain ⟨g, hg, _⟩ := drop_head hj
      obtain ⟨l, hl, _⟩ := drop_head (l := ls) (p := j) (by omega)
      have hgm := List.mem_of_getElem? hg
      have eG7 := o7 _ _ hGx eG6
      have eL7 := o7 _ _ Lbx eL6
      have eg7 := o7 _ _ (hgx g hgm) (hgr6.each g hgm).1
      refine X_if ?_
      refine T_cmp ?_
      walk_at "blt"
      refine A_cons ?_
      refine E_sub ?_
      walk_at "v"
      refine E_var (v := .int (j : Int)) (by rfl) ?_
      refine op_item_list (v := .obj g.1) eG7 (by omega) (by rw [List.getElem?_map, hg]; rfl) ?_
      refine A_nil ?_
      refine cv_len eg7 (by have := hg4 g hgm; simp; omega) ?_
      walk_at "v"
      rw [List.length_map]
      refine op_gt ⟨_, rfl, fun q2 => ?_, fun q2 => ?_⟩
      · have q2 := dt q2
        have hg1 : 1 < g.2.length := by omega
        have hfree := gp7.free j g l (Nat.le_refl _) hg hl hg1
        refine X_brow T (r := .lab l) (by rfl) h7 (by omega) (fun Q hQ => ?_) fun h8 o8 => ?_
        · refine E_tuple ?_
          refine A_cons ?_
          walk_at "v"
          refine A_cons ?_
          refine E_sub ?_
          walk_at "v"
          refine E_var (v := .int (j : Int)) (by rfl) ?_
          refine op_item_list (v := .int l) eL7 (by omega) (by rw [List.getElem?_map, hl]; rfl) ?_
          exact A_nil ⟨[.str "label", .int l], rfl, by simp [PyData.depth, PyData.depthAll], by simp, hQ⟩
        have eG8 := o8 _ _ hGx eG7
        have eg8 := o8 _ _ (hgx g hgm) eg7
        have o78 := o7.trans o8
        have hi8 : BInv cs.length { st7 with rows := st7.rows ++ [.lab l] } := hi7.sec (sec := [.lab l]) (fun x hx => (show x = l by simpa [labs] using hx) ▸ hfree) (by simp [labs]) (by simp [Row.tl])
        generalize upd σ7 b.ro _ = σ8 at *
        obtain ⟨fs8, i8, hfl8, hb8⟩ := h8.inst
        refine X_expr ?_
        refine E_vm T (by rfl) i8 (hb8.no _ (by decide)) (by rfl) (by rfl) (by rfl) ?_
        refine A_cons ?_
        refine E_sub ?_
        walk_at "v"
        refine E_var (v := .int (j : Int)) (by rfl) ?_
        refine op_item_list (v := .obj g.1) eG8 (by omega) (by rw [List.getElem?_map, hg]; rfl) ?_
        refine A_nil ?_
        refine (fn_switch T (cnt := cs.length) (by rw [hbc]) h8 (by omega) hi8 eg8 (hgx g hgm) (hg4 g hgm) (hgr.each g hgm).2.2 fun st9 σ9 o9 h9 hi9 x9 => ?_).up (by decide)
        rw [hbc] at x9
        refine ⟨rfl, X_nil (X_nil (ln _ _ _ ⟨by walk_at "sub", o78.trans o9, st9, h9.mono (by omega), hi9, gp7.place hg hl hg1 (fun i g' l' hi hg' hl' h1 e => ?_) x9⟩))⟩
        have e1 := hglab j g l hg hl hg1
        have e2 := hglab i g' l' hg' hl' h1
        have := (hgstep j g hg hg1).2 i hi
        omega
      · have q2 := df q2
        exact X_nil (X_nil (ln _ _ _ ⟨by walk_at "sub", o7, st7, h7.mono (by omega), hi7, gp7.skip hg (by omega)⟩))
    · rintro σ7 ⟨o7, st7, h7, hi7, gp7⟩
      obtain ⟨fs7, i7, hfl7, hb7⟩ := h7.inst
      refine X_ret ?_
      refine E_vm T (by rfl) i7 (hb7.no _ (by decide)) (by rfl) (by rfl) (by rfl) ?_
      refine A_nil ?_
      have hba7 := h7.fresh b.ro (by simp [Bld.xs])
      refine (fn_finish T (cnt := cs.length) (by rw [hbc]) h7 (by omega) hi7 fun σ8 o8 o08 e8 => ?_).up (by decide)
      have hr7 := h7.rows.2
      have hc7 := h7.chains.2
      refine hP b.ro _ σ8 o08 hba7 e8 (blockOf hi7 (by omega) hlen (fun kd => ?_) (by omega) (by omega))
      obtain ⟨secs, e1, e2⟩ := gp7.ex
      rw [e1]
      have hcs := crow_safe (X := XL cs.length st7.chains) (cnt := cs.length) (ks := keysOf cs) (kd := kd) (ar := ar) (more := secs) (c := 4) (ls := ls) (by omega) fun l hl => by
        obtain ⟨i, hil⟩ := List.getElem?_of_mem hl
        have hilt := (List.getElem?_eq_some_iff.mp hil).1
        obtain ⟨g, hg, _⟩ := drop_head (l := gs) (p := i) (by omega)
        have hgm := List.mem_of_getElem? hg
        refine ⟨by decide, ?_⟩
        rcases Nat.lt_or_ge 1 g.2.length with h1 | h1
        · obtain ⟨pre, suf, e3, s3⟩ := e2 i g l (by omega) hg hil h1
          exact .inr (.inr ⟨pre, suf, e3, s3 kd⟩)
        · have hg1 := (hgr.each g hgm).2.1
          obtain ⟨x, hx, _⟩ := drop_head (l := g.2) (p := 0) (by omega)
          have e4 : l = (x : Int) := by
            have := glabs_get (nx := (cs.length : Int)) hg
            rw [hLS, hil, if_pos (by omega), hx] at this
            exact Option.some.inj this
          have := (hgr.each g hgm).2.2 x (List.mem_of_getElem? hx)
          exact .inr (.inl (.inl ⟨by omega, by omega⟩))
      exact hcs.up (by omega) XL.up
end
section
variable {C : Cx} {n : Nat} {env : Env} {m : Vars} {σ σ0 : AH} {P : V → AH → Prop} {sc : Scope}

theorem fn_ccInit (T : Tx C) {a d l : Addr} {key : PyData} {f u : Int} (hne : a ≠ d) (ha : σ a = none) (hd : σ d = none)
    (hP : ∀ fs σ', OldX [a, d] σ σ' → Inst σ' a 365 d fs → fs.lookup ("key" : Str) = some (.dat key) → fs.lookup ("instrs" : Str) = some (.obj l) → P .none σ') : Fn C 1 362 [.obj a, .int f, .dat key, .obj l, .int u] (upd (upd σ d (.attrs [])) a (.inst 365 d)) P := by
  walk_at "fn"
  intro env hs hcl
  have i0 : Inst (upd (upd σ d (.attrs [])) a (.inst 365 d)) a 365 d [] := Inst.make hne
  have o0 : OldX [a, d] σ (upd (upd σ d (.attrs [])) a (.inst 365 d)) := ((OldX.refl _ _).put (by simp)).put (by simp)
  generalize upd (upd σ d (.attrs [])) a (.inst 365 d) = σ0 at *
  refine X_sa T (a := a) (cc := 365) (d := d) (by rfl) (by rfl) (by rfl) ?_
  walk_at "v"
  refine ⟨_, i0, by simp, ?_⟩
  have i1 := i0.set (fs' := [("functor", V.int f)])
  have o1 := o0.put (a := d) (x := .attrs [("functor", V.int f)]) (by simp)
  generalize upd σ0 d (.attrs [("functor", V.int f)]) = σ1 at *
  refine X_sa T (a := a) (cc := 365) (d := d) (by rfl) (by rfl) (by rfl) ?_
  walk_at "v"
  refine ⟨_, i1, by simp, ?_⟩
  have i2 := i1.set (fs' := [("key", V.dat key), ("functor", V.int f)])
  have o2 := o1.put (a := d) (x := .attrs [("key", V.dat key), ("functor", V.int f)]) (by simp)
  generalize upd σ1 d (.attrs [("key", V.dat key), ("functor", V.int f)]) = σ2 at *
  refine X_sa T (a := a) (cc := 365) (d := d) (by rfl) (by rfl) (by rfl) ?_
  walk_at "v"
  refine ⟨_, i2, by simp, ?_⟩
  have i3 := i2.set (fs' := [("instrs", V.obj l), ("key", V.dat key), ("functor", V.int f)])
  have o3 := o2.put (a := d) (x := .attrs [("instrs", V.obj l), ("key", V.dat key), ("functor", V.int f)]) (by simp)
  generalize upd σ2 d (.attrs [("instrs", V.obj l), ("key", V.dat key), ("functor", V.int f)]) = σ3 at *
  refine X_sa T (a := a) (cc := 365) (d := d) (by rfl) (by rfl) (by rfl) ?_
  walk_at "v"
  refine ⟨_, i3, by simp, ?_⟩
  have i4 := i3.set (fs' := [("used", V.int u), ("instrs", V.obj l), ("key", V.dat key), ("functor", V.int f)])
  have o4 := o3.put (a := d) (x := .attrs [("used", V.int u), ("instrs", V.obj l), ("key", V.dat key), ("functor", V.int f)]) (by simp)
  exact X_nil (hP _ _ o4 i4 (by rfl) (by rfl))
end
section
variable {C : Cx} {n : Nat} {env : Env} {m : Vars} {σ σ0 : AH} {P : V → AH → Prop} {sc : Scope}

theorem fn_figures (T : Tx C) {l : Addr} {xs : List Value} {ns : List Int} (hl : C.h₀.IsList l xs.toArray) (hi : IntsAre xs ns) (hlen : ns.length ≤ 1000)
    (hP : ∀ a σ', Old σ σ' → σ a = none → Figs σ' a → P (.obj a) σ') : Fn C 1 376 [.obj l] σ P := by
  walk_at "fn"
  intro env hs hcl
  refine X_assign (by walk_at "sto") ?_
  refine E_list T.ok ?_
  refine A_nil ⟨by simp, fun L hL => ?_⟩
  have o1 : OldX [L] σ (upd σ L (.list [])) := (OldX.refl _ _).new hL
  have eL1 : upd σ L (.list []) L = some (.list (iV [])) := upd_same _ _ _
  generalize upd σ L (.list []) = σ1 at *
  refine X_forI (fun i σ' => OldX [L] σ σ' ∧ ∃ fs, σ' L = some (.list (iV fs)) ∧ fs.length ≤ 24 * i ∧ ∀ f ∈ fs, 0 ≤ f) [("figures", .obj L)] (by walk_at "sto") ?_
  refine E_script T.ok hl hi (by omega) ?_
  walk_at "v"
  refine ⟨rfl, ?_⟩
  walk_at "v"
  refine ⟨30, rfl, fun S hS => ?_⟩
  have eS : upd σ1 S (.list ((ns.take 30).map V.int)) S = some (.list ((ns.take 30).map V.int)) := upd_same _ _ _
  have nLS : L ≠ S := by rintro rfl; rw [eL1] at hS; cases hS
  refine ⟨_, _, src_list eS, eS, by walk_at "sub", ⟨o1.new hS, [], upd_old hS eL1, by simp, by simp⟩, ?_, ?_⟩
  · rintro i v σ2 hv ⟨o2, fs, eL2, hfl, hf0⟩ hc
    refine Ex.gen fun PL ln => ?_
    have hil := (List.getElem?_eq_some_iff.mp hv).1
    rw [List.length_map, List.length_take] at hil
    rw [List.getElem?_map] at hv
    obtain ⟨x, _, rfl⟩ := Option.map_eq_some_iff.mp hv
    refine X_assign (by walk_at "sto") ?_
    refine W.mono (P := fun v σ' => (∃ w, v = V.int w) ∧ σ' = σ2) ?_ ?_
    · refine E_ifexp ?_
      refine T_cmp ?_
      walk_at "a"
      refine op_ge ⟨_, rfl, fun _ => ?_, fun _ => ?_⟩
      · refine E_var (v := .int x) (by rfl) ?_
        exact ⟨⟨x, rfl⟩, rfl⟩
      · refine E_bin ?_
        walk_at "v"
        refine E_bin ?_
        walk_at "v"
        refine E_var (v := .int x) (by rfl) ?_
        refine op_mul ?_
        exact op_sub ⟨⟨_, rfl⟩, rfl⟩
    rintro v σ3 ⟨⟨w, rfl⟩, rfl⟩
    refine X_forE (ι := Int) (by walk_at "sto") ?_
    walk_at "blt"
    walk_at "a"
    refine cv_range1 T.ok fun r hr => ?_
    refine ⟨fun w' rest σ' => ∃ j, rest = (rngItems 0 ((24 : Nat) : Int)).drop j ∧ j ≤ 24 ∧ σ' S = some (.list ((ns.take 30).map V.int)) ∧ OldX [L] σ σ' ∧ ∃ fs, σ' L = some (.list (iV fs)) ∧ fs.length ≤ 24 * i + j ∧ ∀ f ∈ fs, 0 ≤ f,
      fun w' => [("whole", .int w'), ("figures", .obj L)], rngItems 0 ((24 : Nat) : Int), fun _ => True, w, src_rng (a := 0) (b := ((24 : Nat) : Int)) (upd_same _ _ _) (by decide) (by decide) (by decide) (by decide), trivial, by walk_at "sub", ⟨0, rfl, by omega, upd_old hr hc, o2.new hr, fs, upd_old hr eL2, by omega, hf0⟩, ?_, ?_⟩
    · rintro w' v rest σ4 ⟨j, hrest, hj, eS4, o4, fs4, eL4, hfl4, hf4⟩ _
      refine Ex.gen fun PL2 ln2 => ?_
      obtain ⟨hv, hrest2⟩ := drop_cons hrest
      obtain ⟨hjl, rfl⟩ := rng_get hv
      refine X_expr ?_
      refine E_append T.ok ?_
      walk_at "v"
      refine ⟨L, rfl, ⟨_, eL4⟩, ?_⟩
      refine E_bin ?_
      refine E_var (v := .int w') (by rfl) ?_
      walk_at "v"
      refine op_mod (by decide) ?_
      have hf5 : ∀ f ∈ fs4 ++ [w'.fmod 997], 0 ≤ f := by
        intro f hf
        rcases List.mem_append.mp hf with hf | hf
        · exact hf4 f hf
        · rw [List.mem_singleton.mp hf]; exact Int.fmod_nonneg_of_pos _ (by decide)
      have e5 : upd σ4 L (.list (iV fs4 ++ [.int (w'.fmod 997)])) L = some (.list (iV (fs4 ++ [w'.fmod 997]))) := by rw [upd_same]; simp [iV]
      have eS5 : upd σ4 L (.list (iV fs4 ++ [.int (w'.fmod 997)])) S = some (.list ((ns.take 30).map V.int)) := by rw [upd_other nLS.symm]; exact eS4
      have o5 : OldX [L] σ (upd σ4 L (.list (iV fs4 ++ [.int (w'.fmod 997)]))) := o4.put (by simp)
      refine ⟨_, eL4, by simp; omega, rfl, ?_⟩
      generalize upd σ4 L (.list (iV fs4 ++ [.int (w'.fmod 997)])) = σ5 at *
      have hl5 : (fs4 ++ [w'.fmod 997]).length ≤ 24 * i + (j + 1) := by simp; omega
      refine X_assign (by walk_at "sto") ?_
      refine E_bin ?_
      refine E_var (v := .int w') (by rfl) ?_
      walk_at "v"
      refine op_div (by decide) ?_
      refine X_if ?_
      refine T_cmp ?_
      refine E_var (v := .int (w'.fdiv 997)) (by rfl) ?_
      walk_at "v"
      refine op_eq rfl rfl ⟨_, rfl, fun _ => ?_, fun _ => ?_⟩
      · refine X_brk (ln2 _ _ _ ?_)
        exact X_nil (ln _ _ _ ⟨eS5, by walk_at "sub", o5, _, e5, by omega, hf5⟩)
      · exact X_nil (X_nil (ln2 _ _ _ ⟨trivial, w'.fdiv 997, by walk_at "sub", j + 1, hrest2, hjl, eS5, o5, _, e5, hl5, hf5⟩))
    · rintro w' σ4 ⟨j, hrest, hj, eS4, o4, fs4, eL4, hfl4, hf4⟩ _
      exact X_nil (ln _ _ _ ⟨eS4, by walk_at "sub", o4, fs4, eL4, by omega, hf4⟩)
  · rintro σ2 ⟨o2, fs, eL2, hfl, hf0⟩ hc
    rw [List.length_map, List.length_take] at hfl
    refine X_assign (by walk_at "sto") ?_
    refine E_upto T.ok ?_
    walk_at "v"
    walk_at "v"
    refine ⟨L, iV fs, 90, rfl, rfl, eL2, by simp; omega, fun L2 hL2 => ?_⟩
    have o3 : Old σ (upd σ2 L2 (.list ((iV fs).take 90))) := (o2.old (by simp [hL])).trans ((OldX.refl _ _).new hL2)
    have L20 : σ L2 = none := (o2.old (by simp [hL])).none (by simp) hL2
    refine X_expr ?_
    refine E_reverse T.ok ?_
    walk_at "v"
    refine ⟨L2, _, rfl, upd_same _ _ _, by simp; omega, rfl, ?_⟩
    refine X_ret ?_
    walk_at "v"
    refine hP L2 _ ((o2.old (by simp [hL])).then (((OldX.refl [L2] _).put (by simp)).put (by simp)) (by simp [L20])) L20 ⟨(fs.take 90).reverse, ?_, by simp; omega, ?_⟩
    · rw [upd_same]; simp [iV, List.map_take]
    · intro f hf
      exact hf0 f (List.mem_of_mem_take (List.mem_reverse.mp hf))
end
noncomputable def isSp : Row → Prop
  | .lab _ => False
  | .exec _ => False
  | .fail => False
  | _ => True
theorem mem_str {x : Str} {l : List Str} (h : PyData.str x ∈ l.map PyData.str) : x ∈ l := by
  obtain ⟨y, hy, e⟩ := List.mem_map.mp h
  injection e with e; subst e; exact hy
noncomputable def spNames : List Str := ["try", "retry", "trust", "switch_on_term", "switch_on_constant", "switch_on_structure"]
theorem isSp_of {r : Row} (h : r.nm ∈ spNames) : isSp r := by
  cases r <;> first | trivial | (exact absurd h (by decide))

/-- a spoiled block -/
theorem BlockOk.spoil {cnt : Nat} {ks : List PyData} {full : List Row} {p : Nat} {r r' : Row} (h : BlockOk cnt ks full) (hr : full[p]? = some r) (hs : isSp r) (ha : AltR (fun l => 0 ≤ l ∧ l < (cnt : Int)) r r') (htl : r'.tl ≤ 8) : BlockOk cnt ks (full.take p ++ [r'] ++ full.drop (p + 1)) := by
  have hlt := (List.getElem?_eq_some_iff.mp hr).1
  have hfull : full = full.take p ++ r :: full.drop (p + 1) := by
    obtain ⟨r0, h0, hd⟩ := drop_head hlt
    rw [hr] at h0; cases h0
    rw [← hd, List.take_append_drop]
  have halts : Alts (fun l => 0 ≤ l ∧ l < (cnt : Int)) full (full.take p ++ [r'] ++ full.drop (p + 1)) := by
    have app : ∀ (a : List Row) {b c : List Row}, Alts (fun l => 0 ≤ l ∧ l < (cnt : Int)) b c → Alts (fun l => 0 ≤ l ∧ l < (cnt : Int)) (a ++ b) (a ++ c) := by
      intro a
      induction a with
      | nil => intro b c h; exact h
      | cons x a ih => intro b c h; exact .cons (.refl x) (ih h)
    have := app (full.take p) (Alts.cons ha (Alts.refl _ (full.drop (p + 1))))
    rw [← hfull] at this
    simpa using this
  refine ⟨by rw [halts.length]; exact h.len, by rw [halts.labs]; exact h.nodup, fun h2 => ?_, fun h2 => ?_, fun x hx => by
    rcases List.mem_append.mp hx with hx | hx
    · rcases List.mem_append.mp hx with hx | hx
      · exact h.tab x (List.mem_of_mem_take hx)
      · rw [List.mem_singleton.mp hx]; exact htl
    · exact h.tab x (List.mem_of_mem_drop hx)⟩
  · obtain ⟨ctl, e, hsafe⟩ := h.parts h2
    have hp : p < ctl.length := by
      rcases Nat.lt_or_ge p ctl.length with q | q
      · exact q
      · exfalso
        rw [e, List.getElem?_append_right q] at hr
        have hm := List.mem_of_getElem? hr
        have : ∀ n, ∀ x ∈ clausepart n, ¬ isSp x := by
          intro n
          induction n with
          | zero => intro x hx; simp [clausepart] at hx
          | succ n ih =>
            intro x hx
            rw [clausepart_succ] at hx
            rcases List.mem_append.mp hx with hx | hx
            · exact ih x hx
            · simp only [List.mem_cons, List.not_mem_nil, or_false] at hx
              rcases hx with rfl | rfl <;> exact fun q => q
        exact this _ _ hm hs
    refine ⟨ctl.take p ++ [r'] ++ ctl.drop (p + 1), ?_, fun kd => ?_⟩
    · rw [e, List.take_append_of_le_length (by omega), List.drop_append_of_le_length (by omega)]; simp
    · refine (hsafe kd).alt (Z := fun l => 0 ≤ l ∧ l < (cnt : Int)) (fun b l _ hl => hl) ?_
      have hr' : ctl[p]? = some r := by rw [e, List.getElem?_append_left hp] at hr; exact hr
      obtain ⟨r0, h0, hd⟩ := drop_head hp
      rw [hr'] at h0; cases h0
      have app : ∀ (a : List Row) {b c : List Row}, Alts (fun l => 0 ≤ l ∧ l < (cnt : Int)) b c → Alts (fun l => 0 ≤ l ∧ l < (cnt : Int)) (a ++ b) (a ++ c) := by
        intro a
        induction a with
        | nil => intro b c h; exact h
        | cons x a ih => intro b c h; exact .cons (.refl x) (ih h)
      have := app (ctl.take p) (Alts.cons ha (Alts.refl _ (ctl.drop (p + 1))))
      rw [← hd, List.take_append_drop] at this
      simpa using this
  · rcases h.small h2 with rfl | rfl
    · cases p with
      | zero => simp at hr; subst hr; exact hs.elim
      | succ p => simp at hr
    · cases p with
      | zero => simp at hr; subst hr; exact hs.elim
      | succ p => simp at hr
theorem Figs.old {σ σ' : AH} {F : Addr} (h : Figs σ F) (k : Old σ σ') : Figs σ' F := by
  obtain ⟨fs, e, q⟩ := h
  exact ⟨fs, k _ _ (by simp) e, q⟩
theorem Figs.ne {σ : AH} {F a : Addr} (h : Figs σ F) (k : σ a = none) : a ≠ F := by
  obtain ⟨fs, e, q⟩ := h
  rintro rfl; rw [k] at e; cases e

structure JumpR (Z : Int → Prop) (g : Int) (r : Row) : Prop where
  ex : ∃ nm l tl r', r.l = .str nm :: .int l :: tl ∧ (nm == ("switch_on_term" : Str)) = false ∧ nm ∈ (["try", "retry", "trust"] : List Str) ∧ r'.l = .str nm :: .int g :: tl ∧ AltR Z r r' ∧ r'.tl ≤ 8
structure TabR (Z : Int → Prop) (g : Int) (r : Row) : Prop where
  ex : ∃ nm ts d, r.l = [.str nm, .tuple ts, .int d] ∧ (nm == ("switch_on_term" : Str)) = false ∧ nm ∉ (["try", "retry", "trust"] : List Str) ∧ ts.length ≤ 8 ∧ PyData.depthAll ts ≤ 5 ∧
    (∀ (i : Nat) (e : PyData), ts[i]? = some e → ∃ k j, e = .tuple [k, .int j] ∧ k.depth ≤ 3 ∧ ∃ r', r'.l = [.str nm, .tuple (ts.set i (.tuple [k, .int g])), .int d] ∧ PyData.depthAll (ts.set i (.tuple [k, .int g])) ≤ 5 ∧ AltR Z r r' ∧ r'.tl ≤ 8) ∧
    (∃ r', r'.l = [.str nm, .tuple ts, .int g] ∧ AltR Z r r' ∧ r'.tl ≤ 8)

theorem sp_kinds {Z : Int → Prop} {g : Int} {r : Row} (hs : isSp r) (ht : r.tl ≤ 8) (hg : g = -1 ∨ Z g) : (∃ v c l s, r = .term v c l s) ∨ JumpR Z g r ∨ TabR Z g r := by
  have ag : ∀ a, Alt1 Z a g := fun a => .inr hg
  have as : ∀ a, Alt1 Z a a := fun a => .inl rfl
  cases r with
  | lab n => exact hs.elim
  | exec n => exact hs.elim
  | fail => exact hs.elim
  | tri l a => exact .inr (.inl ⟨"try", l, [.int a], .tri g a, rfl, by decide, by decide, rfl, .tri (ag l), Nat.zero_le _⟩)
  | retry l => exact .inr (.inl ⟨"retry", l, [], .retry g, rfl, by decide, by decide, rfl, .retry (ag l), Nat.zero_le _⟩)
  | trust l => exact .inr (.inl ⟨"trust", l, [], .trust g, rfl, by decide, by decide, rfl, .trust (ag l), Nat.zero_le _⟩)
  | term v c l s => exact .inl ⟨v, c, l, s, rfl⟩
  | con t d =>
    refine .inr (.inr ⟨"switch_on_constant", t.map conE, d, rfl, by decide, by decide, by simpa [Row.tl] using ht, depth_con t, fun i e he => ?_, .con t g, rfl, .con (fun e he => ⟨e, he, rfl, rfl, as _⟩) (ag d), ht⟩)
    rw [List.getElem?_map] at he
    obtain ⟨x, hx, rfl⟩ := Option.map_eq_some_iff.mp he
    have hset : (t.map conE).set i (.tuple [.tuple [.int x.1, .int x.2.1], .int g]) = (t.set i (x.1, x.2.1, g)).map conE := by rw [List.map_set]; rfl
    refine ⟨.tuple [.int x.1, .int x.2.1], x.2.2, rfl, by simp [PyData.depth, PyData.depthAll], .con (t.set i (x.1, x.2.1, g)) d, ?_, ?_, .con (fun e' he' => ?_) (as d), by simpa [Row.tl] using ht⟩
    · rw [hset]; rfl
    · rw [hset]; exact depth_con _
    · rcases List.mem_or_eq_of_mem_set he' with h | rfl
      · exact ⟨e', h, rfl, rfl, as _⟩
      · exact ⟨x, List.mem_of_getElem? hx, rfl, rfl, ag _⟩
  | str t d =>
    refine .inr (.inr ⟨"switch_on_structure", t.map strE, d, rfl, by decide, by decide, by simpa [Row.tl] using ht, depth_str t, fun i e he => ?_, .str t g, rfl, .str (fun e he => ⟨e, he, rfl, as _⟩) (ag d), ht⟩)
    rw [List.getElem?_map] at he
    obtain ⟨x, hx, rfl⟩ := Option.map_eq_some_iff.mp he
    have hset : (t.map strE).set i (.tuple [.int x.1, .int g]) = (t.set i (x.1, g)).map strE := by rw [List.map_set]; rfl
    refine ⟨.int x.1, x.2, rfl, by simp [PyData.depth], .str (t.set i (x.1, g)) d, ?_, ?_, .str (fun e' he' => ?_) (as d), by simpa [Row.tl] using ht⟩
    · rw [hset]; rfl
    · rw [hset]; exact depth_str _
    · rcases List.mem_or_eq_of_mem_set he' with h | rfl
      · exact ⟨e', h, rfl, as _⟩
      · exact ⟨x, List.mem_of_getElem? hx, rfl, ag _⟩

theorem row_depth (r : Row) : PyData.depthAll r.l ≤ 7 := by
  cases r with
  | con t d => have := depth_con t; simp only [Row.l, PyData.depthAll, PyData.depth]; omega
  | str t d => have := depth_str t; simp only [Row.l, PyData.depthAll, PyData.depth]; omega
  | _ => simp [Row.l, PyData.depthAll, PyData.depth]
theorem row_len (r : Row) : r.l.length ≤ 5 := by cases r <;> simp [Row.l]
theorem BlockOk.ne {cnt : Nat} {ks : List PyData} {full : List Row} (h : BlockOk cnt ks full) : full ≠ [] := by
  rintro rfl
  rcases Nat.lt_or_ge cnt 2 with q | q
  · rcases h.small q with e | e <;> cases e
  · obtain ⟨ctl, e, _⟩ := h.parts q
    have := congrArg List.length e
    rw [List.length_append, clausepart_len] at this
    simp at this; omega
section
variable {C : Cx} {n : Nat} {env : Env} {m : Vars} {σ σ0 : AH} {P : V → AH → Prop} {sc : Scope}

theorem fn_spoiled (T : Tx C) {F B : Addr} {full : List Row} {cnt : Nat} {ks : List PyData} (hF : Figs σ F) (eB : σ B = some (.list (dats (full.map Row.d)))) (hB : BlockOk cnt ks full)
    (hP : ∀ a full' σ', OldX [F] σ σ' → Figs σ' F → σ a = none → σ' a = some (.list (dats (full'.map Row.d))) → BlockOk cnt ks full' → P (.obj a) σ') : Fn C 2 397 [.obj F, .obj B, .int (cnt : Int)] σ P := by
  walk_at "fn"
  intro env hs hcl
  have hlen := hB.len
  have FB : B ≠ F := by
    obtain ⟨fs, e, _⟩ := hF
    rintro rfl
    rw [e] at eB
    have hne := hB.ne
    cases full with
    | nil => exact hne rfl
    | cons r full =>
      cases fs with
      | nil => simp [iV, dats] at eB
      | cons f fs => simp [iV, dats, Row.d] at eB
  refine X_assign (by walk_at "sto") ?_
  refine E_list T.ok ?_
  refine A_nil ⟨by simp, fun Sp hSp => ?_⟩
  have eB1 : upd σ Sp (.list []) B = some (.list (dats (full.map Row.d))) := upd_old hSp eB
  have BS : B ≠ Sp := by rintro rfl; rw [hSp] at eB; cases eB
  have SF : Sp ≠ F := hF.ne hSp
  refine X_forN (fun i σ' => OldX [Sp] σ σ' ∧ ∃ sp : List Nat, σ' Sp = some (.list (nV sp)) ∧ sp.length ≤ i ∧ ∀ p ∈ sp, ∃ r, full[p]? = some r ∧ isSp r) [("spots", .obj Sp), ("figures", .obj F), ("block", .obj B), ("many", .int (cnt : Int))] (by walk_at "sto") ?_
  walk_at "blt"
  refine A_cons ?_
  walk_at "blt"
  walk_at "a"
  refine cv_len eB1 (by simp; omega) ?_
  refine A_nil ?_
  refine cv_range1 T.ok fun r hr => ?_
  refine ⟨r, full.length, rfl, by rw [upd_same]; simp, by omega, by walk_at "sub", ⟨((OldX.refl _ _).new hSp).new hr, [], upd_old hr (upd_same _ _ _), by simp, by simp⟩, ?_, ?_⟩
  · rintro i σ2 hi ⟨o2, sp, eS, hsl, hsp⟩
    refine Ex.gen fun PL ln => ?_
    have eB2 := o2 B _ (by simpa using BS) eB
    obtain ⟨r, hr, _⟩ := drop_head hi
    refine X_if ?_
    refine T_cmp ?_
    refine E_rowj 0 (by rfl) (by rfl) eB2 hr (by omega) r.head (by decide) (by rfl) ?_
    refine E_tuple ?_
    walk_at "a"
    refine ⟨spNames.map PyData.str, rfl, by decide, by decide, ?_⟩
    refine op_in_tup (by intro d hd; obtain ⟨x, _, rfl⟩ := List.mem_map.mp hd; rfl) rfl ⟨_, rfl, fun q => ?_, fun q => ?_⟩
    · have q := isSp_of (mem_str (dt q))
      refine X_expr ?_
      refine E_append T.ok ?_
      walk_at "v"
      refine ⟨Sp, rfl, ⟨_, eS⟩, ?_⟩
      refine E_var (v := .int (i : Int)) (by rfl) ?_
      refine ⟨_, eS, by simp; omega, rfl, X_nil (X_nil (ln _ _ _ ⟨by walk_at "sub", o2.put (by simp), sp ++ [i], by rw [upd_same]; simp, by simp; omega, ?_⟩))⟩
      intro p hp
      rcases List.mem_append.mp hp with hp | hp
      · exact hsp p hp
      · rw [List.mem_singleton.mp hp]; exact ⟨r, hr, q⟩
    · exact X_nil (X_nil (ln _ _ _ ⟨by walk_at "sub", o2, sp, eS, by omega, hsp⟩))
  · rintro σ2 ⟨o2, sp, eS, hsl, hsp⟩
    have o20 : Old σ σ2 := o2.old (by simp [hSp])
    have eB2 := o20 _ _ (by simp) eB
    have F2 := hF.old o20
    clear o2 eB1
    refine X_if ?_
    refine T_cmp ?_
    walk_at "v"
    refine E_list T.ok ?_
    refine A_nil ⟨by simp, fun N hN => ?_⟩
    have o3 : Old σ2 (upd σ2 N (.list [])) := (OldX.refl _ _).new hN
    have eN : upd σ2 N (.list []) N = some (.list (dats [])) := upd_same _ _ _
    have eS3 : upd σ2 N (.list []) Sp = some (.list (dats (sp.map fun i : Nat => .int (i : Int)))) := by rw [upd_old hN eS]; simp [dats, nV]
    have F3 := F2.old o3
    have eB3 := o3 _ _ (by simp) eB2
    have o30 := o20.trans o3
    generalize upd σ2 N (.list []) = σ3 at *
    refine op_eq_list eS3 eN (by intro d hd; obtain ⟨x, _, rfl⟩ := List.mem_map.mp hd; rfl) (by simp) ⟨_, rfl, fun q => ?_, fun q => ?_⟩
    · refine X_ret ?_
      walk_at "blt"
      walk_at "a"
      refine cv_list_list T.ok eB3 (by simp; omega) fun a ha => ?_
      exact hP a full _ (Old.x (o30.new ha)) (F3.old ((OldX.refl _ _).new ha)) (o30.none (by simp) ha) (upd_same _ _ _) hB
    · have q := df q
      have hne : sp ≠ [] := by rintro rfl; exact q rfl
      have hpos : 0 < sp.length := List.length_pos_iff.mpr hne
      refine X_nil ?_
      -- the place
      refine X_assign (by walk_at "sto") ?_
      refine E_sub ?_
      walk_at "v"
      walk_at "call"
      refine A_cons ?_
      walk_at "v"
      refine A_cons ?_
      walk_at "blt"
      walk_at "a"
      refine cv_len eS3 (by simp; omega) ?_
      refine A_nil ?_
      refine (fn_draw' T F3 (by simp; omega) fun j σ4 hj o4 F4 => ?_).up (by decide)
      have hj : j < sp.length := by simp at hj; omega
      obtain ⟨p, hp, _⟩ := drop_head hj
      obtain ⟨r, hr, hrs⟩ := hsp p (List.mem_of_getElem? hp)
      have hpl := (List.getElem?_eq_some_iff.mp hr).1
      have eS4 := o4 Sp _ (by simpa using SF) eS3
      have eB4 := o4 B _ (by simpa using FB) eB3
      have o40 := (Old.x (X := [F]) o30).trans o4
      refine op_item_list (v := .int (p : Int)) eS4 (by omega) (by simp [dats, hp]) ?_
      -- the row
      refine X_assign (by walk_at "sto") ?_
      walk_at "blt"
      refine A_cons ?_
      refine E_row (by rfl) (by rfl) eB4 hr (by omega) ?_
      refine A_nil ?_
      refine cv_list_tup T.ok (by have := row_len r; omega) fun Rw hRw => ?_
      have RF : Rw ≠ F := F4.ne hRw
      have RB : B ≠ Rw := by rintro rfl; rw [eB4] at hRw; cases hRw
      have eR5 : upd σ4 Rw (.list (dats r.l)) Rw = some (.list (dats r.l)) := upd_same _ _ _
      have o5 : Old σ4 (upd σ4 Rw (.list (dats r.l))) := (OldX.refl _ _).new hRw
      have Rn : σ Rw = none := by
        cases e : σ Rw with
        | none => rfl
        | some y => rw [o40 Rw y (by simpa using RF) e] at hRw; cases hRw
      have F5 := F4.old o5
      have eB5 := o5 _ _ (by simp) eB4
      have o50 := o40.trans o5.x
      generalize upd σ4 Rw (.list (dats r.l)) = σ5 at *
      -- the goal
      refine X_assign (by walk_at "sto") ?_
      refine E_bin ?_
      walk_at "call"
      refine A_cons ?_
      walk_at "v"
      refine A_cons ?_
      refine E_bin ?_
      walk_at "a"
      refine op_add ?_
      refine A_nil ?_
      refine (fn_draw' T F5 (by omega) fun gq σ6 hgq o6 F6 => ?_).up (by decide)
      walk_at "v"
      refine op_sub ?_
      have hg : ((gq : Int) - 1) = -1 ∨ (0 ≤ ((gq : Int) - 1) ∧ ((gq : Int) - 1) < (cnt : Int)) := by omega
      generalize hgg : ((gq : Int) - 1) = g at *
      have eR6 := o6 Rw _ (by simpa using RF) eR5
      have eB6 := o6 B _ (by simpa using FB) eB5
      have o60 := o50.trans o6
      clear hgg hgq o4 o5 o6 o50 o40 eS3 eS4 eB3 eB4 eB5 F2 F3 F4 F5 o30 o3 o20 eB2 eN eR5
      have htl := hB.tab r (List.mem_of_getElem? hr)
      refine X_ifJ (ι := Row) (fun r' σ' => OldX [F] σ σ' ∧ Figs σ' F ∧ AltR (fun l => 0 ≤ l ∧ l < (cnt : Int)) r r' ∧ r'.tl ≤ 8 ∧ (σ' Rw = some (.list (dats r'.l)) ∨ σ' Rw = some (.rlist (dats r'.l))))
        (fun r' => [("row", .obj Rw), ("place", .int (p : Int)), ("block", .obj B)]) ?_ ?_
      · refine fun PJ jn jo => ?_
        have put : ∀ {σ' : AH} {x : AObj}, OldX [F] σ σ' → OldX [F] σ (upd σ' Rw x) := fun {σ' x} o b y hb e => by
          rw [upd_other (by rintro rfl; rw [Rn] at e; cases e)]; exact o b y hb e
        have figs : ∀ {σ' : AH} {x : AObj}, Figs σ' F → Figs (upd σ' Rw x) F := fun {σ' x} h => by
          obtain ⟨fs, e, q⟩ := h
          exact ⟨fs, by rw [upd_other RF.symm]; exact e, q⟩
        refine T_cmp ?_
        refine E_sub ?_
        walk_at "v"
        walk_at "v"
        rcases sp_kinds (Z := fun l => 0 ≤ l ∧ l < (cnt : Int)) (g := g) hrs htl hg with ⟨v, c, l, s, rfl⟩ | ⟨nm, l, tl, r', hrl, hn1, hn2, hrl', halt, htl'⟩ | ⟨nm, ts, d, hrl, hn1, hn2, hts, hdep, htab, r'', hrl'', halt'', htl''⟩
        · refine op_item_list (k := 0) (v := .str "switch_on_term") eR6 (by decide) (by rfl) ?_
          walk_at "v"
          refine op_eq rfl rfl ⟨_, rfl, fun _ => ?_, fun q => absurd rfl (df q)⟩
          refine X_setitem ?_
          walk_at "v"
          walk_at "v"
          refine E_bin ?_
          walk_at "v"
          walk_at "call"
          walk_at "a"
          refine (fn_draw' T F6 (by decide) fun q7 σ7 hq7 o7 F7 => ?_).up (by decide)
          have eR7 := o7 Rw _ (by simpa using RF) eR6
          refine op_add ?_
          rw [show (1 : Int) + (q7 : Int) = ((1 + q7 : Nat) : Int) by omega]
          refine put_list (.inl eR7) (by simp [Row.l]; omega) (by simp [Row.l]) ?_
          have key : ∃ r', (dats (Row.term v c l s).l).set (1 + q7) (.int g) = dats r'.l ∧ AltR (fun l => 0 ≤ l ∧ l < (cnt : Int)) (.term v c l s) r' ∧ r'.tl ≤ 8 := by
            have hq : q7 = 0 ∨ q7 = 1 ∨ q7 = 2 ∨ q7 = 3 := by omega
            rcases hq with rfl | rfl | rfl | rfl
            · exact ⟨.term g c l s, rfl, .term (.inr hg) (.inl rfl) (.inl rfl) (.inl rfl), Nat.zero_le _⟩
            · exact ⟨.term v g l s, rfl, .term (.inl rfl) (.inr hg) (.inl rfl) (.inl rfl), Nat.zero_le _⟩
            · exact ⟨.term v c g s, rfl, .term (.inl rfl) (.inl rfl) (.inr hg) (.inl rfl), Nat.zero_le _⟩
            · exact ⟨.term v c l g, rfl, .term (.inl rfl) (.inl rfl) (.inl rfl) (.inr hg), Nat.zero_le _⟩
          obtain ⟨r', e1, e2, e3⟩ := key
          rw [e1]
          exact X_nil (jn r' _ _ (by walk_at "sub") ⟨put (o60.trans o7), figs F7, e2, e3, .inr (upd_same _ _ _)⟩)
        · rw [hrl] at eR6
          refine op_item_list (k := 0) (v := .str nm) eR6 (by decide) (by rfl) ?_
          walk_at "v"
          refine op_eq rfl rfl ⟨_, rfl, fun q => absurd (dt q) (sne hn1), fun _ => ?_⟩
          refine X_if ?_
          refine T_cmp ?_
          refine E_sub ?_
          walk_at "v"
          walk_at "v"
          refine op_item_list (k := 0) (v := .str nm) eR6 (by decide) (by rfl) ?_
          refine E_tuple ?_
          walk_at "a"
          refine ⟨(["try", "retry", "trust"] : List Str).map PyData.str, rfl, by decide, by decide, ?_⟩
          refine op_in_tup (by intro d hd; obtain ⟨x, _, rfl⟩ := List.mem_map.mp hd; rfl) rfl ⟨_, rfl, fun _ => ?_, fun q => absurd (List.mem_map.mpr ⟨nm, hn2, rfl⟩) (df q)⟩
          refine X_setitem ?_
          walk_at "v"
          walk_at "v"
          walk_at "v"
          refine put_list (k := 1) (.inl eR6) (by simp) (by have := row_len r; rw [hrl] at this; simp at this ⊢; omega) ?_
          have e1 : (dats (.str nm :: .int l :: tl)).set 1 (.int g) = dats r'.l := by rw [hrl']; rfl
          rw [e1]
          exact X_nil (X_nil (jn r' _ _ (by walk_at "sub") ⟨put o60, figs F6, halt, htl', .inr (upd_same _ _ _)⟩))
        · rw [hrl] at eR6
          refine op_item_list (k := 0) (v := .str nm) eR6 (by decide) (by rfl) ?_
          walk_at "v"
          refine op_eq rfl rfl ⟨_, rfl, fun q => absurd (dt q) (sne hn1), fun _ => ?_⟩
          refine X_if ?_
          refine T_cmp ?_
          refine E_sub ?_
          walk_at "v"
          walk_at "v"
          refine op_item_list (k := 0) (v := .str nm) eR6 (by decide) (by rfl) ?_
          refine E_tuple ?_
          walk_at "a"
          refine ⟨(["try", "retry", "trust"] : List Str).map PyData.str, rfl, by decide, by decide, ?_⟩
          refine op_in_tup (by intro d hd; obtain ⟨x, _, rfl⟩ := List.mem_map.mp hd; rfl) rfl ⟨_, rfl, fun q => absurd (mem_str (dt q)) hn2, fun _ => ?_⟩
          -- the table's pairs
          refine X_assign (by walk_at "sto") ?_
          walk_at "blt"
          refine A_cons ?_
          refine E_sub ?_
          walk_at "v"
          walk_at "v"
          refine op_item_list (k := 1) (v := .tup ts) eR6 (by decide) (by rfl) ?_
          refine A_nil ?_
          refine cv_list_tup T.ok (by omega) fun Q hQ => ?_
          have QF : Q ≠ F := F6.ne hQ
          have QR : Rw ≠ Q := by rintro rfl; rw [eR6] at hQ; cases hQ
          have eQ7 : upd σ6 Q (.list (dats ts)) Q = some (.list (dats ts)) := upd_same _ _ _
          have o7 : Old σ6 (upd σ6 Q (.list (dats ts))) := (OldX.refl _ _).new hQ
          have eR7 := o7 _ _ (by simp) eR6
          have F7 := F6.old o7
          have o70 := o60.trans o7.x
          have Qn : σ Q = none := by
            cases e : σ Q with
            | none => rfl
            | some y => rw [o60 Q y (by simpa using QF) e] at hQ; cases hQ
          generalize upd σ6 Q (.list (dats ts)) = σ7 at *
          refine X_assign (by walk_at "sto") ?_
          walk_at "call"
          refine A_cons ?_
          walk_at "v"
          refine A_cons ?_
          refine E_bin ?_
          walk_at "blt"
          walk_at "a"
          refine cv_len eQ7 (by simp; omega) ?_
          walk_at "v"
          refine op_add ?_
          refine A_nil ?_
          refine (fn_draw' T F7 (by omega) fun j8 σ8 hj8 o8 F8 => ?_).up (by decide)
          have eR8 := o8 Rw _ (by simpa using RF) eR7
          have eQ8 := o8 Q _ (by simpa using QF) eQ7
          have o80 := o70.trans o8
          refine X_if ?_
          refine T_cmp ?_
          walk_at "v"
          walk_at "blt"
          walk_at "a"
          refine cv_len eQ8 (by simp; omega) ?_
          rw [List.length_map]
          refine op_lt ⟨_, rfl, fun q => ?_, fun q => ?_⟩
          · have q := dt q
            have hjl : j8 < ts.length := by omega
            obtain ⟨e, he, _⟩ := drop_head hjl
            obtain ⟨k, j, rfl, hkd, r', hrl', hdep', halt', htl'⟩ := htab j8 e he
            refine X_setitem ?_
            refine E_tuple ?_
            refine A_cons ?_
            refine E_sub ?_
            refine E_sub ?_
            walk_at "v"
            walk_at "v"
            refine op_item_list (k := j8) (v := .tup [k, .int j]) eQ8 (by omega) (by rw [List.getElem?_map, he]; rfl) ?_
            walk_at "v"
            refine op_item_tup (k := 0) (by decide) (by rfl) ?_
            walk_at "a"
            refine ⟨[k, .int g], rfl, by simp only [PyData.depthAll, PyData.depth]; omega, by simp, ?_⟩
            walk_at "v"
            walk_at "v"
            refine put_list (k := j8) (.inl eQ8) (by simpa using hjl) (by simp; omega) ?_
            have e1 : (dats ts).set j8 (.tup [k, .int g]) = dats (ts.set j8 (.tuple [k, .int g])) := by simp only [dats]; rw [List.map_set]
            rw [e1]
            have eQ9 : upd σ8 Q (.rlist (dats (ts.set j8 (.tuple [k, .int g])))) Q = some (.rlist (dats (ts.set j8 (.tuple [k, .int g])))) := upd_same _ _ _
            have eR9 : upd σ8 Q (.rlist (dats (ts.set j8 (.tuple [k, .int g])))) Rw = some (.list (dats [.str nm, .tuple ts, .int d])) := by rw [upd_other QR]; exact eR8
            have o90 : OldX [F] σ (upd σ8 Q (.rlist (dats (ts.set j8 (.tuple [k, .int g]))))) := fun b y hb e => by
              rw [upd_other (by rintro rfl; rw [Qn] at e; cases e)]; exact o80 b y hb e
            have F9 : Figs (upd σ8 Q (.rlist (dats (ts.set j8 (.tuple [k, .int g]))))) F := by
              obtain ⟨fs, e, q⟩ := F8
              exact ⟨fs, by rw [upd_other QF.symm]; exact e, q⟩
            generalize upd σ8 Q (.rlist (dats (ts.set j8 (.tuple [k, .int g])))) = σ9 at *
            refine X_setitem ?_
            walk_at "blt"
            walk_at "a"
            refine cv_tuple (.inr eQ9) rfl (by simp; omega) (by omega) ?_
            walk_at "v"
            walk_at "v"
            refine put_list (k := 1) (.inl eR9) (by simp) (by simp) ?_
            have e1 : (dats [.str nm, .tuple ts, .int d]).set 1 (.tup (ts.set j8 (.tuple [k, .int g]))) = dats r'.l := by rw [hrl']; rfl
            rw [e1]
            exact X_nil (X_nil (X_nil (jn r' _ _ (by walk_at "sub") ⟨put o90, figs F9, halt', htl', .inr (upd_same _ _ _)⟩)))
          · refine X_setitem ?_
            walk_at "v"
            walk_at "v"
            walk_at "v"
            refine put_list (k := 2) (.inl eR8) (by simp) (by simp) ?_
            have e1 : (dats [.str nm, .tuple ts, .int d]).set 2 (.int g) = dats r''.l := by rw [hrl'']; rfl
            rw [e1]
            exact X_nil (X_nil (X_nil (jn r'' _ _ (by walk_at "sub") ⟨put o80, figs F8, halt'', htl'', .inr (upd_same _ _ _)⟩)))
      · rintro r' σ7 ⟨o7, F7, halt, htl', eR7⟩
        have eB7 := o7 B _ (by simpa using FB) eB
        refine X_ret ?_
        refine E_bin ?_
        refine E_bin ?_
        refine E_upto T.ok ?_
        walk_at "v"
        refine E_var (v := .int (p : Int)) (by rfl) ?_
        refine ⟨B, _, p, rfl, rfl, eB7, by simp; omega, fun U hU => ?_⟩
        have o8 : Old σ7 (upd σ7 U (.list ((dats (full.map Row.d)).take p))) := (OldX.refl _ _).new hU
        have eU8 : upd σ7 U (.list ((dats (full.map Row.d)).take p)) U = some (.list (dats ((full.take p).map Row.d))) := by rw [upd_same]; simp [dats, List.map_take]
        have eB8 := o8 _ _ (by simp) eB7
        have F8 := F7.old o8
        have eR8 := eR7.imp (o8 _ _ (by simp)) (o8 _ _ (by simp))
        have o80 := o7.trans o8.x
        generalize upd σ7 U (.list ((dats (full.map Row.d)).take p)) = σ8 at *
        refine E_list T.ok ?_
        refine A_cons ?_
        walk_at "blt"
        walk_at "a"
        refine cv_tuple eR8 rfl (by have := row_len r'; omega) (row_depth r') ?_
        refine A_nil ⟨by simp, fun O hO => ?_⟩
        have o9 : Old σ8 (upd σ8 O (.list [.tup r'.l])) := (OldX.refl _ _).new hO
        have eO9 : upd σ8 O (.list [.tup r'.l]) O = some (.list (dats ([r'].map Row.d))) := by rw [upd_same]; rfl
        have eU9 := o9 _ _ (by simp) eU8
        have eB9 := o9 _ _ (by simp) eB8
        have F9 := F8.old o9
        have o90 := o80.trans o9.x
        generalize upd σ8 O (.list [.tup r'.l]) = σ9 at *
        refine op_add_list T.ok eU9 eO9 (by simp; omega) fun W hW => ?_
        have o10 : Old σ9 (upd σ9 W (.list (dats ((full.take p).map Row.d) ++ dats ([r'].map Row.d)))) := (OldX.refl _ _).new hW
        have eW10 : upd σ9 W (.list (dats ((full.take p).map Row.d) ++ dats ([r'].map Row.d))) W = some (.list (dats ((full.take p ++ [r']).map Row.d))) := by rw [upd_same]; simp [dats]
        have eB10 := o10 _ _ (by simp) eB9
        have F10 := F9.old o10
        have o100 := o90.trans o10.x
        generalize upd σ9 W (.list (dats ((full.take p).map Row.d) ++ dats ([r'].map Row.d))) = σ10 at *
        refine E_from T.ok ?_
        walk_at "v"
        refine E_bin ?_
        refine E_var (v := .int (p : Int)) (by rfl) ?_
        walk_at "v"
        refine op_add ?_
        refine ⟨B, _, p + 1, rfl, by simp, eB10, by simp; omega, fun Z hZ => ?_⟩
        have o11 : Old σ10 (upd σ10 Z (.list ((dats (full.map Row.d)).drop (p + 1)))) := (OldX.refl _ _).new hZ
        have eZ11 : upd σ10 Z (.list ((dats (full.map Row.d)).drop (p + 1))) Z = some (.list (dats ((full.drop (p + 1)).map Row.d))) := by rw [upd_same]; simp [dats, List.map_drop]
        have eW11 := o11 _ _ (by simp) eW10
        have F11 := F10.old o11
        have o110 := o100.trans o11.x
        generalize upd σ10 Z (.list ((dats (full.map Row.d)).drop (p + 1))) = σ11 at *
        refine op_add_list T.ok eW11 eZ11 (by simp; omega) fun a ha => ?_
        have aF : a ≠ F := F11.ne ha
        refine hP a (full.take p ++ [r'] ++ full.drop (p + 1)) _ (o110.new ha) (F11.old ((OldX.refl _ _).new ha)) ?_ ?_ (hB.spoil hr hrs halt htl')
        · cases e : σ a with
          | none => rfl
          | some y => rw [o110 a y (by simpa using aF) e] at ha; cases ha
        · rw [upd_same]; simp [dats]
end
section
variable {C : Cx} {n : Nat} {env : Env} {m : Vars} {σ σ0 : AH} {P : Out → Vars → AH → Prop} {rest : List Stmt} {sc : Scope}

theorem swap_no {elt : Expr} {gens : List Comprehension} {scope : Scope} {pos py : Pos} {t : Str} {line : Nat} (hs : env.scope = sc) (ht : sc.names.lookup t = some .cell) : swapsWith (.ListComp elt gens scope pos) (some (.Name t py)) line env = pure false := by
  have e2 : env.kindOf t = some .cell := kind_of hs ht
  show (pure (env.blockKind == .function && env.kindOf t == some .local && py.line == pos.line && !(scope.names.any fun x => x.1 == t && (x.2 == .local || x.2 == .cell))) : Sem Bool) = _
  rw [e2]
  cases env.blockKind == .function <;> rfl
theorem X_asg {x : Str} {px pos : Pos} {value : Expr} (hk : Sto env x) (hsw : swapsWith value (some (.Name x px)) pos.line env = pure false) (h : Ev C n env m value σ (fun v σ1 => Ex C n env ((x, v) :: m) rest σ1 P)) : Ex C n env m (.Assign [.Name x px] value pos :: rest) σ P := by
  refine X_cons fun A s R S F E Q hQ => wpAny_Assign_Name (h A s R S F E _ ?_) hsw
  intro v y σ1 s1 h2 S1 T1 V1
  refine wp_store S1 (F.step S T1) V1 hk.kind hk.nd fun s2 S2 F2 T2 => ?_
  exact hQ .next _ _ σ1 s2 h2 rfl S2 F2 (T1.toL.trans (F.step S T1) T2)
end

noncomputable def samp (U : List PyData) (g f : Int) : List PyData := [kVar, kList] ++ U ++ [kConst 5 (g + 1), kStruct (f + 1)]
noncomputable def strg (g f : Int) : List PyData := [kConst 5 (g + 1), kStruct (f + 1)]
theorem mem_samp {U : List PyData} {g f : Int} {d : PyData} : d ∈ samp U g f ↔ d = kVar ∨ d = kList ∨ d ∈ U ∨ d = kConst 5 (g + 1) ∨ d = kStruct (f + 1) := by
  simp [samp, List.mem_append]

section
variable {ks U : List PyData} {g f : Int} {full : List Row} {cnt : Nat}
theorem strange_const (h : SampleOk ks U g f) : kConst 5 (g + 1) ∉ ks := fun q => by have := h.gm _ q; omega
theorem strange_struct (h : SampleOk ks U g f) : kStruct (f + 1) ∉ ks := fun q => by have := h.fm _ q; omega
theorem keys_samp (h : SampleOk ks U g f) {d : PyData} (hd : d ∈ ks) : d ∈ samp U g f := by
  rw [mem_samp]
  rcases h.all d hd with q | q | q
  · exact .inl q
  · exact .inr (.inl q)
  · exact .inr (.inr (.inl q))

theorem matAt_out {d : PyData} (h : d ∉ ks) (hv : d ≠ kVar) (i : Nat) : MatAt ks d i ↔ ks[i]? = some kVar := by
  constructor
  · rintro ⟨c, hc, q | q | q⟩
    · rw [hc, q]
    · exact absurd q hv
    · exact absurd (q ▸ List.mem_of_getElem? hc) h
  · intro q; exact ⟨_, q, .inl rfl⟩
theorem cand_same {d e : PyData} (hd : d ∉ ks) (hd' : d ≠ kVar) (he : e ∉ ks) (he' : e ≠ kVar) (n : Nat) : cand ks d n = cand ks e n := by
  unfold cand
  congr 1
  congr 1
  funext i
  exact decide_eq_decide.mpr ((matAt_out hd hd' i).trans (matAt_out he he' i).symm)
theorem filt_same {d e : PyData} (hd : d ∉ ks) (hd' : d ≠ kVar) (he : e ∉ ks) (he' : e ≠ kVar) (l : List Int) : filt ks d l = filt ks e l := by
  unfold filt
  congr 1
  funext i
  exact decide_eq_decide.mpr ((matAt_out hd hd' _).trans (matAt_out he he' _).symm)
theorem tried_same {y y' : Ky} (hB : BlockOk cnt ks full) (hk : y.kd = y'.kd) (hy : y.d ∉ ks) (hy' : y'.d ∉ ks) : tried cnt y full = tried cnt y' full := by
  unfold tried
  split
  · rfl
  · split
    · rfl
    · exact run_same rfl hk.symm hy hy' (hB.safe (by omega) _) hB.nodup

/-- y' stands for y -/
structure Stands (cnt : Nat) (ks U : List PyData) (g f : Int) (full : List Row) (y y' : Ky) : Prop where
  tr : tried cnt y full = tried cnt y' full
  cd : cand ks y.d cnt = cand ks y'.d cnt
  fl : ∀ l, filt ks y.d l = filt ks y'.d l
  mem : y'.d ∈ samp U g f
theorem Stands.refl {y : Ky} (h : y.d ∈ samp U g f) : Stands cnt ks U g f full y y := ⟨rfl, rfl, fun _ => rfl, h⟩
theorem Stands.out {y y' : Ky} (hB : BlockOk cnt ks full) (sok : SampleOk ks U g f) (h : y.d ∉ samp U g f) (hm : y'.d ∈ strg g f) (hk : y.kd = y'.kd) : Stands cnt ks U g f full y y' := by
  have h1 : y.d ∉ ks := fun q => h (keys_samp sok q)
  have h2 : y.d ≠ kVar := fun q => h (by rw [q, mem_samp]; exact .inl rfl)
  have h3 : y'.d ∉ ks ∧ y'.d ≠ kVar ∧ y'.d ∈ samp U g f := by
    simp only [strg, List.mem_cons, List.not_mem_nil, or_false] at hm
    rcases hm with hm | hm <;> rw [hm]
    · exact ⟨strange_const sok, fun q => (by cases q), by rw [mem_samp]; simp⟩
    · exact ⟨strange_struct sok, fun q => (by cases q), by rw [mem_samp]; simp⟩
  exact ⟨tried_same hB hk h1 h3.1, cand_same h1 h2 h3.1 h3.2.1 _, filt_same h1 h2 h3.1 h3.2.1, h3.2.2⟩
open Classical in
theorem mem_cand {d : PyData} {x : Int} (h0 : 0 ≤ x) (h1 : x < (cnt : Int)) : x ∈ cand ks d cnt ↔ MatAt ks d x.toNat := by
  unfold cand
  simp only [List.mem_map, List.mem_filter, List.mem_range, decide_eq_true_eq]
  constructor
  · rintro ⟨i, ⟨hi, hm⟩, rfl⟩; simpa using hm
  · intro hm; exact ⟨x.toNat, ⟨by omega, hm⟩, by omega⟩
theorem mem_ints {l : List Int} {x : Int} : PyData.int x ∈ l.map PyData.int ↔ x ∈ l := by
  simp
end
noncomputable def lawTail (k : Nat) : List Stmt := (sBody (stmtAt 37)).drop k
theorem isKey_depth {d : PyData} (h : IsKey d) : d.depth ≤ 5 := by
  rcases h with rfl | rfl | ⟨n, rfl⟩ | ⟨t, n, rfl⟩ <;> simp [kVar, kList, kStruct, kConst, PyData.depth, PyData.depthAll]

section
variable {C : Cx} {n : Nat} {env : Env} {m : Vars} {σ σ0 : AH} {P : Out → Vars → AH → Prop} {sc : Scope}

/-- what the law's loop has at hand -/
structure LoopIn (L B S M X : Addr) (cs : List Code) (full : List Row) (U : List PyData) (g f : Int) (σ : AH) : Prop where
  hc : CodesOk σ L cs
  eB : σ B = some (.list (dats (full.map Row.d)))
  eS : σ S = some (.list (dats (samp U g f)))
  eM : σ M = some (.list (dats (keysOf cs)))
  eX : σ X = some (.list (dats (strg g f)))
theorem LoopIn.old {L B S M X : Addr} {cs : List Code} {full : List Row} {U : List PyData} {g f : Int} {σ σ' : AH} (h : LoopIn L B S M X cs full U g f σ) (o : Old σ σ') : LoopIn L B S M X cs full U g f σ' :=
  ⟨h.hc.old o, o _ _ (by simp) h.eB, o _ _ (by simp) h.eS, o _ _ (by simp) h.eM, o _ _ (by simp) h.eX⟩

theorem law_loop (T : Tx C) {L B S M X K : Addr} {cs : List Code} {full : List Row} {U : List PyData} {g f : Int} {ck : List PyData} {re rl : Bool}
    (hs : env.scope = sScope (stmtAt 37)) (hcl : ∀ x, (sScope (stmtAt 37)).names.lookup x = some .cell → (env.cells.lookup x).isSome = true)
    (hI : LoopIn L B S M X cs full U g f σ) (hB : BlockOk cs.length (keysOf cs) full) (sok : SampleOk (keysOf cs) U g f) (hU : ∀ k ∈ U, IsKey k)
    (eK : σ K = some (.list (dats ck))) (hck : ∀ k ∈ ck, IsKey k) (hkl : ck.length ≤ 10)
    (hre : re = true → ∀ y : Ky, y.d ∈ samp U g f → tried cs.length y full = cand (keysOf cs) y.d cs.length)
    (hrl : rl = true → ∀ y : Ky, y.d ∈ samp U g f → filt (keysOf cs) y.d (tried cs.length y full) = cand (keysOf cs) y.d cs.length)
    (hP : ∀ m σ', P (.ret (.bool true)) m σ') :
    Ex C 8 env [("calls", .obj K), ("loose", .bool rl), ("exact", .bool re), ("strange", .obj X), ("mine", .obj M), ("samples", .obj S), ("block", .obj B), ("many", .int (cs.length : Int)), ("codes", .obj L)] (lawTail 21) σ P := by
  have hlen := hI.hc.len
  have hkey := hI.hc.isKey
  refine X_forI (fun i σ' => Old σ σ') [("loose", .bool rl), ("exact", .bool re), ("strange", .obj X), ("mine", .obj M), ("samples", .obj S), ("block", .obj B), ("many", .int (cs.length : Int)), ("codes", .obj L)] ⟨Or.inr ⟨kind_of hs (by rfl), hcl _ (by rfl)⟩, by rfl⟩ ?_
  refine E_bin ?_
  walk_at "v"
  refine E_last T.ok ?_
  walk_at "v"
  refine E_neg ?_
  walk_at "v"
  refine ⟨1, rfl, ?_⟩
  refine ⟨M, dats (keysOf cs), rfl, rfl, hI.eM, by simp [keysOf]; omega, fun a ha => ?_⟩
  generalize hla : (dats (keysOf cs)).drop ((dats (keysOf cs)).length - 1) = la
  have hla' : ∃ ds, la = dats ds ∧ ds.length ≤ 4 ∧ ∀ d ∈ ds, IsKey d := by
    refine ⟨(keysOf cs).drop ((keysOf cs).length - 1), ?_, ?_, fun d hd => hkey d (List.mem_of_mem_drop hd)⟩
    · rw [← hla]; simp [dats, List.map_drop]
    · rw [List.length_drop]; simp [keysOf]; omega
  obtain ⟨ds, rfl, hdl, hdk⟩ := hla'
  have o1 : Old σ (upd σ a (.list (dats ds))) := (OldX.refl _ _).new ha
  refine op_add_list T.ok (o1 _ _ (by simp) eK) (upd_same _ _ _) (by simp; omega) fun D hD => ?_
  have eD : upd (upd σ a (.list (dats ds))) D (.list (dats ck ++ dats ds)) D = some (.list (dats (ck ++ ds))) := by rw [upd_same]; simp [dats]
  refine ⟨dats (ck ++ ds), _, src_list eD, eD, by walk_at "sub", o1.new hD, ?_, ?_⟩
  · rintro i v σ2 hv o2 hD2
    refine Ex.gen fun PL ln => ?_
    rw [List.getElem?_map] at hv
    obtain ⟨d, hd, rfl⟩ := Option.map_eq_some_iff.mp hv
    have hd' : IsKey d := by
      rcases List.mem_append.mp (List.mem_of_getElem? hd) with q | q
      · exact hck d q
      · exact hdk d q
    obtain ⟨y, rfl⟩ := hd'.ky
    have I2 := hI.old o2
    have hSn : ∀ d ∈ samp U g f, nb d = true := by
      intro d hd
      rw [mem_samp] at hd
      rcases hd with rfl | rfl | hd | rfl | rfl
      · rfl
      · rfl
      · exact (hU d hd).nb
      · rfl
      · rfl
    refine X_assign (by walk_at "sto") ?_
    walk_at "v"
    refine X_ifJ (ι := Ky) (fun y' σ' => Old σ2 σ' ∧ Stands cs.length (keysOf cs) U g f full y y')
      (fun y' => [("stand", .dat y'.d), ("call", .dat y.d), ("loose", .bool rl), ("exact", .bool re), ("strange", .obj X), ("mine", .obj M), ("samples", .obj S), ("block", .obj B), ("many", .int (cs.length : Int)), ("codes", .obj L)]) ?_ ?_
    · refine fun PJ jn jo => ?_
      refine T_cmp ?_
      walk_at "a"
      refine op_notin_list (.inl I2.eS) ?_ y.isKey.nb ⟨_, rfl, fun q => ?_, fun q => ?_⟩
      · exact hSn
      · have q := ndt q
        refine X_assign (by walk_at "sto") ?_
        refine E_sub ?_
        refine E_cp T hs hcl (by decide) (by rfl) (by decide) ?_
        have nv : y.d ≠ kVar := fun e => q (by rw [e, mem_samp]; exact .inl rfl)
        have nl : y.d ≠ kList := fun e => q (by rw [e, mem_samp]; exact .inr (.inl rfl))
        cases y with
        | var => exact absurd rfl nv
        | list => exact absurd rfl nl
        | struct x =>
          refine CompSay.byI (fun i acc σ4 => Old σ2 σ4 ∧ acc = dats (if i ≤ 1 then [] else [kStruct (f + 1)])) [("call", .dat (Ky.struct x).d)] ⟨rfl, by decide, by rfl, by decide, by rfl, by rfl, by decide, by simp only [List.map_cons, List.map_nil]; decide⟩ ?_
          walk_at "v"
          refine ⟨dats (strg g f), _, by walk_at "sub", src_list I2.eX, I2.eX, ⟨OldX.refl _ _, by simp⟩, ?_, ?_⟩
          · rintro cenv j v acc σ4 hcs hj ⟨o4, rfl⟩ hl4
            have hj2 := (List.getElem?_eq_some_iff.mp hj).1
            simp [strg] at hj2
            obtain rfl | rfl : j = 0 ∨ j = 1 := by omega
            · simp only [strg, dats, List.map_cons, List.getElem?_cons_zero, Option.some.injEq] at hj; subst hj
              refine Ts_one ?_
              refine T_cmp ?_
              refine E_ti (ds := [.str "const", .tuple [.int 5, .int (g + 1)]]) 0 (by rfl) (by rfl) (by decide) (by rfl) ?_
              refine E_ti (ds := [.str "struct", .int x]) 0 (by rfl) (by rfl) (by decide) (by rfl) ?_
              refine op_eq rfl rfl ⟨_, rfl, fun h1 => absurd (dt h1) (sne (by decide)), fun _ => ⟨hl4, o4, by simp⟩⟩
            · simp only [strg, dats, List.map_cons, List.getElem?_cons_succ, List.getElem?_cons_zero, Option.some.injEq] at hj; subst hj
              refine Ts_one ?_
              refine T_cmp ?_
              refine E_ti (ds := [.str "struct", .int (f + 1)]) 0 (by rfl) (by rfl) (by decide) (by rfl) ?_
              refine E_ti (ds := [.str "struct", .int x]) 0 (by rfl) (by rfl) (by decide) (by rfl) ?_
              refine op_eq rfl rfl ⟨_, rfl, fun h1 => ?_, fun h1 => absurd rfl (df h1)⟩
              refine E_var (by rfl) ⟨hl4, by simp [dats], o4, by simp [dats]⟩
          · rintro acc σ4 ⟨o4, rfl⟩ hl4 D2 hD2
            walk_at "v"
            refine op_item_list (k := 0) (v := .dat (kStruct (f + 1))) (upd_same _ _ _) (by decide) (by simp [strg, dats]) ?_
            exact X_nil (jn (.struct (f + 1)) _ _ (by walk_at "sub") ⟨o4.new hD2, .out hB sok q (by simp [strg, Ky.d]) rfl⟩)
        | const t x =>
          refine CompSay.byI (fun i acc σ4 => Old σ2 σ4 ∧ acc = dats (if i = 0 then [] else [kConst 5 (g + 1)])) [("call", .dat (Ky.const t x).d)] ⟨rfl, by decide, by rfl, by decide, by rfl, by rfl, by decide, by simp only [List.map_cons, List.map_nil]; decide⟩ ?_
          walk_at "v"
          refine ⟨dats (strg g f), _, by walk_at "sub", src_list I2.eX, I2.eX, ⟨OldX.refl _ _, by simp⟩, ?_, ?_⟩
          · rintro cenv j v acc σ4 hcs hj ⟨o4, rfl⟩ hl4
            have hj2 := (List.getElem?_eq_some_iff.mp hj).1
            simp [strg] at hj2
            obtain rfl | rfl : j = 0 ∨ j = 1 := by omega
            · simp only [strg, dats, List.map_cons, List.getElem?_cons_zero, Option.some.injEq] at hj; subst hj
              refine Ts_one ?_
              refine T_cmp ?_
              refine E_ti (ds := [.str "const", .tuple [.int 5, .int (g + 1)]]) 0 (by rfl) (by rfl) (by decide) (by rfl) ?_
              refine E_ti (ds := [.str "const", .tuple [.int t, .int x]]) 0 (by rfl) (by rfl) (by decide) (by rfl) ?_
              refine op_eq rfl rfl ⟨_, rfl, fun h1 => ?_, fun h1 => absurd rfl (df h1)⟩
              refine E_var (by rfl) ⟨hl4, by simp [dats], o4, by simp [dats]⟩
            · simp only [strg, dats, List.map_cons, List.getElem?_cons_succ, List.getElem?_cons_zero, Option.some.injEq] at hj; subst hj
              refine Ts_one ?_
              refine T_cmp ?_
              refine E_ti (ds := [.str "struct", .int (f + 1)]) 0 (by rfl) (by rfl) (by decide) (by rfl) ?_
              refine E_ti (ds := [.str "const", .tuple [.int t, .int x]]) 0 (by rfl) (by rfl) (by decide) (by rfl) ?_
              refine op_eq rfl rfl ⟨_, rfl, fun h1 => absurd (dt h1) (sne (by decide)), fun _ => ⟨hl4, o4, by simp⟩⟩
          · rintro acc σ4 ⟨o4, rfl⟩ hl4 D2 hD2
            walk_at "v"
            refine op_item_list (k := 0) (v := .dat (kConst 5 (g + 1))) (upd_same _ _ _) (by decide) (by simp [strg, dats]) ?_
            exact X_nil (jn (.const 5 (g + 1)) _ _ (by walk_at "sub") ⟨o4.new hD2, .out hB sok q (by simp [strg, Ky.d]) rfl⟩)
      · have q := ndf q
        exact X_nil (jn y _ _ (by walk_at "sub") ⟨OldX.refl _ _, .refl q⟩)
    · rintro y' σ3 ⟨o3, st⟩
      have I3 := I2.old o3
      have hD3 := o3 _ _ (by simp) hD2
      have o30 := o2.trans o3
      obtain ⟨trange, tlen⟩ := tried_range (y := y) (ks := keysOf cs) (b := 16) hB.nodup (fun q => hB.safe q _) (by decide)
      -- tried
      refine X_assign (by walk_at "sto") ?_
      walk_at "call"
      walk_at "a"
      refine (fn_tried T I3.eB hB.len hB.nodup (fun q => hB.safe q _) (b := 16) (by decide) fun t σ4 o4 ht et => ?_).up (by decide)
      have I4 := I3.old o4
      have hD4 := o4 _ _ (by simp) hD3
      have o40 := o30.trans o4
      refine X_if ?_
      refine T_cmp ?_
      walk_at "v"
      walk_at "call"
      walk_at "a"
      refine (fn_tried T I4.eB hB.len hB.nodup (fun q => hB.safe q _) (b := 16) (by decide) fun t' σ5 o5 ht' et' => ?_).up (by decide)
      have I5 := I4.old o5
      have hD5 := o5 _ _ (by simp) hD4
      have et5 := o5 _ _ (by simp) et
      have o50 := o40.trans o5
      rw [← st.tr] at et'
      rw [iV_dats] at et5 et'
      refine op_ne_list et5 et' (ints_nb _) (ints_nb _) ⟨_, rfl, fun q => absurd rfl (ndt q), fun _ => ?_⟩
      refine X_nil ?_
      -- fitting
      refine X_asg ⟨Or.inr ⟨kind_of hs (by rfl), hcl _ (by rfl)⟩, by rfl⟩ (swap_no hs (by rfl)) ?_
      refine E_cp T hs hcl (by decide) (by rfl) (by decide) ?_
      refine CompSay.byI (fun i acc σ6 => Old σ5 σ6 ∧ acc = iV (cand (keysOf cs) y.d i)) [("mine", .obj M), ("call", .dat y.d)] ⟨rfl, by decide, by rfl, by decide, by rfl, by rfl, by decide, by simp only [List.map_cons, List.map_nil]; decide⟩ ?_
      walk_at "blt"
      walk_at "a"
      refine cv_range1 T.ok fun r hr => ?_
      have hrg : rngItems 0 (cs.length : Int) = nV (List.range cs.length) := by
        unfold rngItems
        rw [show ((cs.length : Int) - 0).toNat = cs.length by omega]
        simp [nV]
      refine ⟨rngItems 0 (cs.length : Int), fun _ => True, by walk_at "sub", src_rng (upd_same _ _ _) (by decide) (by decide) (by omega) (by omega), trivial, ⟨(OldX.refl _ _).new hr, by simp [cand]⟩, ?_, ?_⟩
      · rintro cenv i v acc σ6 hcs hi ⟨o6, rfl⟩ _
        obtain ⟨hil, rfl⟩ := rng_get hi
        have hci := List.getElem?_eq_getElem hil
        have hki : (keysOf cs)[i]? = some cs[i].key := keyOf_get hci
        have hkn := (hkey _ (List.mem_of_getElem? hki)).nb
        have I6 := I5.old o6
        have hcl6 : (cand (keysOf cs) y.d i).length ≤ 4 := by have := cand_len (ks := keysOf cs) (k := y.d) (i := i); omega
        have mineAt : ∀ {n : Nat} {cenv : Env} {m : Vars} {σ' : AH} {p1 p2 p3 : Pos} {Q : V → AH → Prop}, Old σ5 σ' → m.lookup ("mine" : Str) = some (.obj M) → m.lookup ("place" : Str) = some (.int (i : Int)) → Q (.dat cs[i].key) σ' → Ev C n cenv m (.Subscript (.Name "mine" p1) (.Name "place" p2) p3) σ' Q := by
          intro n cenv m σ' p1 p2 p3 Q o hm hp hq
          refine E_sub (E_var hm (E_var hp ?_))
          exact op_item_list (I5.old o).eM (by omega) (by rw [List.getElem?_map, hki]; rfl) hq
        refine Ts_one ?_
        refine T_or ?_
        refine T_cmp ?_
        refine E_tuple ?_
        walk_at "a"
        refine ⟨[.str "var"], rfl, by decide, by decide, ?_⟩
        refine E_tuple ?_
        refine A_cons ?_
        refine mineAt o6 (by rfl) (by rfl) ?_
        walk_at "a"
        refine ⟨[cs[i].key, y.d], rfl, ?_, by simp, ?_⟩
        · have h1 := isKey_depth (hkey _ (List.mem_of_getElem? hki))
          have h2 := isKey_depth y.isKey
          simp only [PyData.depthAll]; omega
        have hnb2 : ∀ d ∈ [cs[i].key, y.d], nb d = true := by
          intro d hd
          simp only [List.mem_cons, List.not_mem_nil, or_false] at hd
          rcases hd with rfl | rfl
          · exact hkn
          · exact y.isKey.nb
        refine op_in_tup hnb2 rfl ⟨_, rfl, fun q => ?_, fun q => ?_⟩
        · have q := dt q
          simp only [List.mem_cons, List.not_mem_nil, or_false] at q
          have hm : Mat cs[i].key y.d := q.elim (fun e => .inl e.symm) (fun e => .inr (.inl e.symm))
          refine ⟨fun _ => E_var (by rfl) ⟨trivial, by simp; omega, o6, ?_⟩, fun e => by cases e⟩
          rw [cand_succ hki, if_pos hm]; simp [iV]
        · have q := df q
          simp only [List.mem_cons, List.not_mem_nil, or_false, not_or] at q
          refine T_cmp ?_
          refine mineAt o6 (by rfl) (by rfl) ?_
          walk_at "v"
          refine op_eq hkn y.isKey.nb ⟨_, rfl, fun q2 => ?_, fun q2 => ?_⟩
          · refine E_var (by rfl) ⟨trivial, by simp; omega, o6, ?_⟩
            rw [cand_succ hki, if_pos (.inr (.inr (dt q2)))]; simp [iV]
          · refine ⟨trivial, o6, ?_⟩
            have hm : ¬ Mat cs[i].key y.d := by
              rintro (e | e | e)
              · exact q.1 e.symm
              · exact q.2 e.symm
              · exact df q2 e
            rw [cand_succ hki, if_neg hm]; simp
      · rintro acc σ6 ⟨o6, rfl⟩ _ Fi hFi
        rw [rng_len]
        have I7 := I5.old (o6.new hFi (x := .list (iV (cand (keysOf cs) y.d cs.length))))
        have o70 := o50.trans (o6.new hFi (x := .list (iV (cand (keysOf cs) y.d cs.length))))
        have et7 := (o6.new hFi (x := .list (iV (cand (keysOf cs) y.d cs.length)))) _ _ (by simp) et5
        have hD7 := (o6.new hFi (x := .list (iV (cand (keysOf cs) y.d cs.length)))) _ _ (by simp) hD5
        have eF7 : upd σ6 Fi (.list (iV (cand (keysOf cs) y.d cs.length))) Fi = some (.list (dats ((cand (keysOf cs) y.d cs.length).map PyData.int))) := by rw [upd_same, iV_dats]
        generalize upd σ6 Fi (.list (iV (cand (keysOf cs) y.d cs.length))) = σ7 at *
        clear o6 et5 et' hD2 hD3 hD4 hD5 et
        refine X_ifJ (ι := Unit) (fun _ σ' => Old σ7 σ')
          (fun _ => [("fitting", .obj Fi), ("tried", .obj t), ("loose", .bool rl), ("exact", .bool re), ("strange", .obj X), ("mine", .obj M), ("samples", .obj S), ("block", .obj B), ("many", .int (cs.length : Int)), ("codes", .obj L)]) ?_ ?_
        · refine fun PJ jn jo => ?_
          refine T_or ?_
          refine T_cmp ?_
          walk_at "call"
          walk_at "a"
          refine (fn_candidates T I7.hc y.isKey.nb fun q8 σ8 o8 hq8 eq8 => ?_).up (by decide)
          have eF8 := o8 _ _ (by simp) eF7
          have et8 := o8 _ _ (by simp) et7
          rw [iV_dats] at eq8
          walk_at "v"
          refine op_ne_list eq8 eF8 (ints_nb _) (ints_nb _) ⟨_, rfl, fun q => absurd rfl (ndt q), fun _ => ?_⟩
          refine T_and ?_
          refine T_of ?_
          refine E_var (v := .bool re) (by rfl) ?_
          refine truthy_bool ⟨fun q => ?_, fun q => ⟨fun e => (by cases e), fun _ => X_nil (jn () _ _ (by walk_at "sub") (o8))⟩⟩
          have he : tried cs.length y full = cand (keysOf cs) y.d cs.length := st.tr.trans ((hre q y' st.mem).trans st.cd.symm)
          refine T_cmp ?_
          walk_at "a"
          refine op_ne_list et8 eF8 (ints_nb _) (ints_nb _) ⟨_, rfl, fun q => absurd (congrArg (List.map PyData.int) he) (ndt q), fun _ => X_nil (jn () _ _ (by walk_at "sub") (o8))⟩
        · rintro _ σ8 o8
          have eF8 := o8 _ _ (by simp) eF7
          have et8 := o8 _ _ (by simp) et7
          have hD8 := o8 _ _ (by simp) hD7
          have o80 := o70.trans o8
          refine X_if ?_
          refine T_and ?_
          refine T_of ?_
          refine E_var (v := .bool rl) (by rfl) ?_
          refine truthy_bool ⟨fun q => ?_, fun q => ⟨fun e => (by cases e), fun _ => X_nil (X_nil (ln _ _ _ ⟨hD8, by walk_at "sub", o80⟩))⟩⟩
          have he : filt (keysOf cs) y.d (tried cs.length y full) = cand (keysOf cs) y.d cs.length := by rw [st.fl, st.tr, st.cd]; exact hrl q y' st.mem
          refine T_cmp ?_
          refine E_cp T hs hcl (by decide) (by rfl) (by decide) ?_
          refine CompSay.byI (fun i acc σ' => Old σ8 σ' ∧ acc = iV (filt (keysOf cs) y.d ((tried cs.length y full).take i))) [("fitting", .obj Fi)] ⟨rfl, by decide, by rfl, by decide, by rfl, by rfl, by decide, by simp only [List.map_cons, List.map_nil]; decide⟩ ?_
          walk_at "v"
          refine ⟨dats ((tried cs.length y full).map PyData.int), _, by walk_at "sub", src_list et8, et8, ⟨OldX.refl _ _, by simp [filt]⟩, ?_, ?_⟩
          · rintro cenv j v acc σ9 hcs hj ⟨o9, rfl⟩ hl9
            rw [List.getElem?_map, List.getElem?_map] at hj
            obtain ⟨d, hd9, rfl⟩ := Option.map_eq_some_iff.mp hj
            obtain ⟨x, hx, rfl⟩ := Option.map_eq_some_iff.mp hd9
            obtain ⟨hx0, hx1⟩ := trange x (List.mem_of_getElem? hx)
            have flen : (filt (keysOf cs) y.d ((tried cs.length y full).take j)).length ≤ 1000 := by
              have := filt_len (ks := keysOf cs) (d := y.d) (l := (tried cs.length y full).take j)
              rw [List.length_take] at this; omega
            refine Ts_one ?_
            refine T_cmp ?_
            walk_at "a"
            refine op_in_list (.inl (o9 _ _ (by simp) eF8)) (ints_nb _) rfl ⟨_, rfl, fun q => ?_, fun q => ?_⟩
            · have hm := (mem_cand hx0 hx1).mp (mem_ints.mp (dt q))
              refine E_var (by rfl) ⟨hl9, by simp; omega, o9, ?_⟩
              rw [take_succ hx, filt_snoc_t hm]; simp [iV]
            · have hm : ¬ MatAt (keysOf cs) y.d x.toNat := fun hm => df q (mem_ints.mpr ((mem_cand hx0 hx1).mpr hm))
              refine ⟨hl9, o9, ?_⟩
              rw [take_succ hx, filt_snoc_f hm]
          · rintro acc σ9 ⟨o9, rfl⟩ hl9 D9 hD9
            walk_at "v"
            have o10 := o9.new hD9 (x := .list (iV (filt (keysOf cs) y.d ((tried cs.length y full).take (dats ((tried cs.length y full).map PyData.int)).length))))
            refine op_ne_list (ds := (filt (keysOf cs) y.d (tried cs.length y full)).map PyData.int) (by rw [upd_same, ← iV_dats]; simp) (o10 _ _ (by simp) eF8) (ints_nb _) (ints_nb _) ⟨_, rfl, fun q => absurd (congrArg (List.map PyData.int) he) (ndt q), fun _ => ?_⟩
            exact X_nil (X_nil (ln _ _ _ ⟨o10 _ _ (by simp) hD8, by walk_at "sub", o80.trans o10⟩))
  · rintro σ2 o2 hD2
    refine X_ret ?_
    refine E_bool ?_
    exact hP _ _
end
noncomputable def Ky.nm : Ky → Str
  | .var => "var"
  | .list => "list"
  | .struct _ => "struct"
  | .const _ _ => "const"
/-- no clause has it, and it is a constant or a functor -/
noncomputable def IsStrange (ks : List PyData) (d : PyData) : Prop := d ∉ ks ∧ ∃ y : Ky, d = y.d ∧ (PyData.str y.nm) ∈ ([.str "const", .str "struct"] : List PyData)
open Classical in
noncomputable def strangeOf (ks l : List PyData) : List PyData := l.filter fun d => decide (IsStrange ks d)
theorem strangeOf_t {ks l : List PyData} {d : PyData} (h : IsStrange ks d) : strangeOf ks (l ++ [d]) = strangeOf ks l ++ [d] := by
  unfold strangeOf; rw [List.filter_append]; simp [h]
theorem strangeOf_f {ks l : List PyData} {d : PyData} (h : ¬ IsStrange ks d) : strangeOf ks (l ++ [d]) = strangeOf ks l := by
  unfold strangeOf; rw [List.filter_append]; simp [h]
theorem strangeOf_len {ks l : List PyData} : (strangeOf ks l).length ≤ l.length := List.length_filter_le _ _
theorem strange_y {ks : List PyData} {y : Ky} (h : IsStrange ks y.d) : y.d ∉ ks ∧ (PyData.str y.nm) ∈ ([.str "const", .str "struct"] : List PyData) := by
  obtain ⟨h1, y', e, h2⟩ := h
  exact ⟨h1, Ky.inj e ▸ h2⟩
theorem strangeOf_samp {ks U : List PyData} {g f : Int} (sok : SampleOk ks U g f) : strangeOf ks (samp U g f) = strg g f := by
  have n1 : ¬ IsStrange ks kVar := fun h => by
    have := (strange_y (y := .var) h).2
    simp only [List.mem_cons, List.not_mem_nil, or_false] at this
    rcases this with q | q
    · exact absurd q (sne (by decide))
    · exact absurd q (sne (by decide))
  have n2 : ¬ IsStrange ks kList := fun h => by
    have := (strange_y (y := .list) h).2
    simp only [List.mem_cons, List.not_mem_nil, or_false] at this
    rcases this with q | q
    · exact absurd q (sne (by decide))
    · exact absurd q (sne (by decide))
  have n3 : ∀ d ∈ U, ¬ IsStrange ks d := fun d hd h => h.1 (sok.only d hd).1
  have y1 : IsStrange ks (kConst 5 (g + 1)) := ⟨strange_const sok, .const 5 (g + 1), rfl, by simp [Ky.nm]⟩
  have y2 : IsStrange ks (kStruct (f + 1)) := ⟨strange_struct sok, .struct (f + 1), rfl, by simp [Ky.nm]⟩
  unfold strangeOf samp
  rw [List.filter_append, List.filter_append]
  have e1 : List.filter (fun d => @decide (IsStrange ks d) (Classical.propDecidable _)) U = [] := by
    rw [List.filter_eq_nil_iff]
    intro d hd
    simpa using n3 d hd
  rw [e1]
  simp [n1, n2, y1, y2, strg]

section
variable {C : Cx} {n : Nat} {env : Env} {m : Vars} {σ σ0 : AH} {P : V → AH → Prop} {sc : Scope}
/-- key[0] -/
theorem E_k0 {x : Str} {px p pos : Pos} {kk : Nat} {y : Ky} (hx : m.lookup x = some (.dat y.d)) (h : P (.str y.nm) σ) : Ev C n env m (.Subscript (.Name x px) (.Constant (.int 0) kk p) pos) σ P := by
  cases y <;> exact E_ti 0 hx (by rfl) (by decide) (by rfl) h

/-- the keys that due lists besides -/
structure DueOk (ks V : List PyData) : Prop where
  all : ∀ k ∈ ks, k = kVar ∨ k = kList ∨ k ∈ V
  only : ∀ k ∈ V, k ∈ ks ∧ k ≠ kVar ∧ k ≠ kList
  nodup : V.Nodup
  len : V.length ≤ ks.length
theorem DueOk.nil : DueOk [] [] := ⟨by simp, by simp, by simp, by simp⟩
theorem DueOk.same {ks V : List PyData} {k : PyData} (h : DueOk ks V) (hk : k = kVar ∨ k = kList ∨ k ∈ V) : DueOk (ks ++ [k]) V := by
  refine ⟨fun x hx => ?_, fun x hx => ⟨List.mem_append.mpr (.inl (h.only x hx).1), (h.only x hx).2⟩, h.nodup, by have := h.len; simp; omega⟩
  rcases List.mem_append.mp hx with q | q
  · exact h.all x q
  · rw [List.mem_singleton.mp q]; exact hk
theorem DueOk.add {ks V : List PyData} {k : PyData} (h : DueOk ks V) (h1 : k ≠ kVar) (h2 : k ≠ kList) (h3 : k ∉ V) : DueOk (ks ++ [k]) (V ++ [k]) := by
  refine ⟨fun x hx => ?_, fun x hx => ?_, ?_, by have := h.len; simp; omega⟩
  · rcases List.mem_append.mp hx with q | q
    · rcases h.all x q with r | r | r
      · exact .inl r
      · exact .inr (.inl r)
      · exact .inr (.inr (List.mem_append.mpr (.inl r)))
    · exact .inr (.inr (List.mem_append.mpr (.inr q)))
  · rcases List.mem_append.mp hx with q | q
    · exact ⟨List.mem_append.mpr (.inl (h.only x q).1), (h.only x q).2⟩
    · rw [List.mem_singleton.mp q]; exact ⟨by simp, h1, h2⟩
  · refine List.nodup_append.mpr ⟨h.nodup, by simp, ?_⟩
    intro a ha b hb e
    obtain rfl := List.mem_singleton.mp hb
    exact h3 (e ▸ ha)
theorem nodup_le : ∀ {a b : List PyData}, a.Nodup → (∀ d ∈ a, d ∈ b) → a.length ≤ b.length
  | [], _, _, _ => by simp
  | x :: a, b, hn, hs => by
    obtain ⟨s, t, rfl⟩ := List.append_of_mem (hs x (by simp))
    obtain ⟨h1, h2⟩ := List.nodup_cons.mp hn
    have := nodup_le (b := s ++ t) h2 fun d hd => by
      have hm := hs d (List.mem_cons_of_mem _ hd)
      have nx : d ≠ x := by rintro rfl; exact h1 hd
      simp only [List.mem_append, List.mem_cons] at hm ⊢
      rcases hm with q | q | q
      · exact .inl q
      · exact absurd q nx
      · exact .inr q
    simp only [List.length_append, List.length_cons] at this ⊢
    omega
theorem DueOk.count {ks U V : List PyData} {g f : Int} (h : DueOk ks V) (sok : SampleOk ks U g f) : V.length = U.length := by
  have e : ∀ d, d ∈ V ↔ d ∈ U := fun d => by
    constructor
    · intro hd
      obtain ⟨a, b, c⟩ := h.only d hd
      rcases sok.all d a with q | q | q
      · exact absurd q b
      · exact absurd q c
      · exact q
    · intro hd
      obtain ⟨a, b, c⟩ := sok.only d hd
      rcases h.all d a with q | q | q
      · exact absurd q b
      · exact absurd q c
      · exact q
  exact Nat.le_antisymm (nodup_le h.nodup fun d hd => (e d).mp hd) (nodup_le sok.nodup fun d hd => (e d).mpr hd)

theorem two_sorted {ss : List Str} (hp : ss.Perm ["const", "struct"]) (hs : sortedS ss = true) : ss = (["const", "struct"] : List Str) := by
  have hl := hp.length_eq
  have hn : ss.Nodup := hp.nodup_iff.mpr (by decide)
  match ss, hl with
  | [a, b], _ =>
    have ha : a ∈ (["const", "struct"] : List Str) := hp.mem_iff.mp (by simp)
    have hb : b ∈ (["const", "struct"] : List Str) := hp.mem_iff.mp (by simp)
    simp only [List.mem_cons, List.not_mem_nil, or_false] at ha hb
    rcases ha with rfl | rfl <;> rcases hb with rfl | rfl
    · exact absurd hn (by decide)
    · rfl
    · exact absurd hs (by decide)
    · exact absurd hn (by decide)
end
section
variable {C : Cx} {σ σ' : AH}
/-- the figures' list may change -/
theorem CodesOk.oldF {F L : Addr} {cs : List Code} {fs : List Int} (h : CodesOk σ L cs) (hF : σ F = some (.list (iV fs))) (hL : L ≠ F) (o : OldX [F] σ σ') : CodesOk σ' L cs := by
  have at_ : ∀ b y, b ≠ F → σ b = some y → σ' b = some y := fun b y hb e => o b y (by simpa using hb) e
  refine ⟨at_ _ _ hL h.list, fun i c e => ?_, h.len⟩
  have hi := h.each i c e
  refine ⟨⟨at_ _ _ (ne_k hi.inst.obj hF (by simp)) hi.inst.obj, at_ _ _ (ne_k hi.inst.att hF (by simp)) hi.inst.att⟩, hi.fk, hi.fi, at_ _ _ (ne_k hi.ins hF ?_) hi.ins, hi.key⟩
  cases fs with
  | nil => simp [iV]
  | cons f fs => simp [iV]
end
section
variable {C : Cx} {n : Nat} {env : Env} {m : Vars} {σ σ0 : AH} {P : Out → Vars → AH → Prop} {sc : Scope}

theorem law_mid (T : Tx C) {F L B : Addr} {cs : List Code} {full : List Row}
    (hs : env.scope = sScope (stmtAt 37)) (hcl : ∀ x, (sScope (stmtAt 37)).names.lookup x = some .cell → (env.cells.lookup x).isSome = true)
    (hF : Figs σ F) (hc : CodesOk σ L cs) (eB : σ B = some (.list (dats (full.map Row.d)))) (hB : BlockOk cs.length (keysOf cs) full) (hLF : L ≠ F) (hBF : B ≠ F)
    (hP : ∀ m σ', P (.ret (.bool true)) m σ') :
    Ex C 8 env [("block", .obj B), ("many", .int (cs.length : Int)), ("codes", .obj L), ("figures", .obj F)] (lawTail 11) σ P := by
  have hlen := hc.len
  have hkey := hc.isKey
  have hkl : (keysOf cs).length = cs.length := by simp [keysOf]
  -- samples
  refine X_assign ⟨Or.inr ⟨kind_of hs (by rfl), hcl _ (by rfl)⟩, by rfl⟩ ?_
  walk_at "call"
  walk_at "a"
  refine (fn_samples T hc fun S U g f σ1 o1 hS sok hU eS => ?_).up (by decide)
  have SF : S ≠ F := hF.ne hS
  have hUl : U.length ≤ 4 := by have := sok.len; omega
  have hSk : ∀ d ∈ samp U g f, IsKey d := by
    intro d hd
    rw [mem_samp] at hd
    rcases hd with rfl | rfl | hd | rfl | rfl
    · exact Ky.isKey .var
    · exact Ky.isKey .list
    · exact hU d hd
    · exact Ky.isKey (.const 5 _)
    · exact Ky.isKey (.struct _)
  have hSl : (samp U g f).length = U.length + 4 := by simp [samp]
  replace eS : σ1 S = some (.list (dats (samp U g f))) := eS
  have F1 := hF.old o1
  have hc1 := hc.old o1
  have eB1 := o1 _ _ (by simp) eB
  clear hF eB hc
  -- mine
  refine X_asg ⟨Or.inr ⟨kind_of hs (by rfl), hcl _ (by rfl)⟩, by rfl⟩ (swap_no hs (by rfl)) ?_
  refine E_cp T hs hcl (by decide) (by rfl) (by decide) ?_
  refine CompSay.byI (fun i acc σ' => Old σ1 σ' ∧ acc = dats ((keysOf cs).take i)) [] ⟨rfl, by decide, by rfl, by decide, by rfl, by rfl, by decide, by simp⟩ ?_
  walk_at "v"
  refine ⟨_, _, by walk_at "sub", src_list hc1.list, hc1.list, ⟨OldX.refl _ _, by simp⟩, ?_, ?_⟩
  · rintro cenv i v acc σ2 hcs hi ⟨o2, rfl⟩ hl2
    rw [List.getElem?_map] at hi
    obtain ⟨c, hci, rfl⟩ := Option.map_eq_some_iff.mp hi
    have hcc := (hc1.old o2).each i c hci
    refine Ts_nil ⟨fun _ => ?_, fun e => (by cases e)⟩
    refine E_va T (by rfl) hcc.inst hcc.fk (by rfl) (by rfl) ⟨hl2, by simp; omega, o2, ?_⟩
    rw [take_succ (keyOf_get hci)]; simp [dats]
  rintro acc σ2 ⟨o2, rfl⟩ hl2 M hM
  have MF : M ≠ F := (F1.old o2).ne hM
  have o3 : Old σ1 (upd σ2 M (.list (dats ((keysOf cs).take (cV cs).length)))) := o2.new hM
  have eM : upd σ2 M (.list (dats ((keysOf cs).take (cV cs).length))) M = some (.list (dats (keysOf cs))) := by
    rw [upd_same, List.take_of_length_le (by simp [keysOf])]
  generalize upd σ2 M (.list (dats ((keysOf cs).take (cV cs).length))) = σ3 at *
  have F3 := F1.old o3
  have hc3 := hc1.old o3
  have eB3 := o3 _ _ (by simp) eB1
  have eS3 := o3 _ _ (by simp) eS
  clear o2 hl2 o3 eS eB1 hc1 F1 o1
  -- strange
  refine X_ac T hs hcl (by decide) (by rfl) (by decide) (by rfl) (by rfl) (by rfl) (by rfl) (by rfl) ?_
  refine CompSay.byI (fun i acc σ' => Old σ3 σ' ∧ acc = dats (strangeOf (keysOf cs) ((samp U g f).take i))) [("mine", .obj M)] ⟨rfl, by decide, by rfl, by decide, by rfl, by rfl, by decide, by simp only [List.map_cons, List.map_nil]; decide⟩ ?_
  walk_at "v"
  refine ⟨_, _, by walk_at "sub", src_list eS3, eS3, ⟨OldX.refl _ _, by simp [strangeOf]⟩, ?_, ?_⟩
  · rintro cenv i v acc σ4 hcs hi ⟨o4, rfl⟩ hl4
    rw [List.getElem?_map] at hi
    obtain ⟨d, hd, rfl⟩ := Option.map_eq_some_iff.mp hi
    obtain ⟨y, rfl⟩ := (hSk d (List.mem_of_getElem? hd)).ky
    have hsl : (strangeOf (keysOf cs) ((samp U g f).take i)).length ≤ 8 := by
      have := strangeOf_len (ks := keysOf cs) (l := (samp U g f).take i)
      rw [List.length_take] at this; omega
    refine Ts_one ?_
    refine T_and ?_
    refine T_cmp ?_
    walk_at "a"
    refine op_notin_list (.inl (o4 _ _ (by simp) eM)) (fun d hd => (hkey d hd).nb) y.isKey.nb ⟨_, rfl, fun q => ?_, fun q => ⟨fun e => (by cases e), fun _ => ⟨hl4, o4, ?_⟩⟩⟩
    · have q := ndt q
      refine T_cmp ?_
      refine E_k0 (by rfl) ?_
      refine E_tuple ?_
      walk_at "a"
      refine ⟨[.str "const", .str "struct"], rfl, by decide, by decide, ?_⟩
      refine op_in_tup (by intro d hd; simp only [List.mem_cons, List.not_mem_nil, or_false] at hd; rcases hd with rfl | rfl <;> rfl) rfl ⟨_, rfl, fun q2 => ?_, fun q2 => ?_⟩
      · refine E_var (by rfl) ⟨hl4, by simp; omega, o4, ?_⟩
        rw [take_succ hd, strangeOf_t ⟨q, y, rfl, dt q2⟩]; simp [dats]
      · refine ⟨hl4, o4, ?_⟩
        rw [take_succ hd, strangeOf_f fun h => df q2 (strange_y h).2]
    · rw [take_succ hd, strangeOf_f fun h => h.1 (ndf q)]
  rintro acc σ4 ⟨o4, rfl⟩ hl4 X hX
  rw [List.length_map, List.take_length, strangeOf_samp sok]
  have XF : X ≠ F := (F3.old o4).ne hX
  have o5 : Old σ3 (upd σ4 X (.list (dats (strg g f)))) := o4.new hX
  have eX : upd σ4 X (.list (dats (strg g f))) X = some (.list (dats (strg g f))) := upd_same _ _ _
  generalize upd σ4 X (.list (dats (strg g f))) = σ5 at *
  have F5 := F3.old o5
  have I5 : LoopIn L B S M X cs full U g f σ5 := ⟨hc3.old o5, o5 _ _ (by simp) eB3, o5 _ _ (by simp) eS3, o5 _ _ (by simp) eM, eX⟩
  clear o4 hl4 o5 eX eM eS3 eB3 hc3 F3
  -- sorted
  refine X_if ?_
  refine T_cmp ?_
  walk_at "blt"
  refine A_cons ?_
  refine E_cp T hs hcl (by decide) (by rfl) (by decide) ?_
  refine CompSay.byI (fun i acc σ' => Old σ5 σ' ∧ acc = (([.str "const", .str "struct"] : List PyData).take i).map V.dat) [] ⟨rfl, by decide, by rfl, by decide, by rfl, by rfl, by decide, by simp⟩ ?_
  walk_at "v"
  refine ⟨_, _, by walk_at "sub", src_list I5.eX, I5.eX, ⟨OldX.refl _ _, by simp⟩, ?_, ?_⟩
  · rintro cenv j v acc σ6 hcs hj ⟨o6, rfl⟩ hl6
    have hj2 := (List.getElem?_eq_some_iff.mp hj).1
    simp [strg] at hj2
    obtain rfl | rfl : j = 0 ∨ j = 1 := by omega
    · simp only [strg, dats, List.map_cons, List.getElem?_cons_zero, Option.some.injEq] at hj; subst hj
      refine Ts_nil ⟨fun _ => ?_, fun e => (by cases e)⟩
      refine E_k0 (y := .const 5 (g + 1)) (by rfl) ?_
      exact ⟨hl6, by simp, o6, by simp [Ky.nm]⟩
    · simp only [strg, dats, List.map_cons, List.getElem?_cons_succ, List.getElem?_cons_zero, Option.some.injEq] at hj; subst hj
      refine Ts_nil ⟨fun _ => ?_, fun e => (by cases e)⟩
      refine E_k0 (y := .struct (f + 1)) (by rfl) ?_
      exact ⟨hl6, by simp, o6, by simp [Ky.nm]⟩
  rintro acc σ6 ⟨o6, rfl⟩ hl6 Q hQ
  refine A_nil ?_
  have eQ : upd σ6 Q (.list ((([.str "const", .str "struct"] : List PyData).take (dats (strg g f)).length).map V.dat)) Q = some (.list ((["const", "struct"] : List Str).map V.str)) := by
    rw [upd_same]; simp [strg]
  have o7 := o6.new hQ (x := .list ((([.str "const", .str "struct"] : List PyData).take (dats (strg g f)).length).map V.dat))
  generalize upd σ6 Q (.list ((([.str "const", .str "struct"] : List PyData).take (dats (strg g f)).length).map V.dat)) = σ7 at *
  refine cv_sorted T.ok eQ (by decide) fun R ss hR hp hso => ?_
  obtain rfl := two_sorted hp hso
  have o8 := o7.new hR (x := .list ((["const", "struct"] : List Str).map V.str))
  have eR : upd σ7 R (.list ((["const", "struct"] : List Str).map V.str)) R = some (.list (dats [.str "const", .str "struct"])) := upd_same _ _ _
  generalize upd σ7 R (.list ((["const", "struct"] : List Str).map V.str)) = σ8 at *
  refine E_list T.ok ?_
  walk_at "a"
  refine ⟨by simp, fun W hW => ?_⟩
  have o9 := o8.new hW (x := .list [.str "const", .str "struct"])
  have eW : upd σ8 W (.list [.str "const", .str "struct"]) W = some (.list (dats [.str "const", .str "struct"])) := upd_same _ _ _
  have eR9 := ((OldX.refl [] σ8).new hW (x := .list [.str "const", .str "struct"])) _ _ (by simp) eR
  generalize upd σ8 W (.list [.str "const", .str "struct"]) = σ9 at *
  have nbs2 : ∀ d ∈ ([.str "const", .str "struct"] : List PyData), nb d = true := by
    intro d hd; simp only [List.mem_cons, List.not_mem_nil, or_false] at hd; rcases hd with rfl | rfl <;> rfl
  refine op_ne_list eR9 eW nbs2 nbs2 ⟨_, rfl, fun q => absurd rfl (ndt q), fun _ => ?_⟩
  refine X_nil ?_
  have F9 := F5.old o9
  have I9 := I5.old o9
  clear o6 o7 o8 o9 eQ eR eR9 eW hQ hR hW I5 F5 hl6
  -- due
  refine X_assign (by walk_at "sto") ?_
  refine E_bin ?_
  refine E_list T.ok ?_
  refine A_cons ?_
  refine E_tuple ?_
  walk_at "a"
  refine ⟨[.str "var"], rfl, by decide, by decide, ?_⟩
  refine A_cons ?_
  refine E_tuple ?_
  walk_at "a"
  refine ⟨[.str "list"], rfl, by decide, by decide, ?_⟩
  refine A_nil ⟨by simp, fun Y hY => ?_⟩
  walk_at "v"
  have o10 : Old σ9 (upd σ9 Y (.list (dats [kVar, kList]))) := (OldX.refl _ _).new hY
  have eY : upd σ9 Y (.list (dats [kVar, kList])) Y = some (.list (dats [kVar, kList])) := upd_same _ _ _
  replace eY : upd σ9 Y (.list [.tup [.str "var"], .tup [.str "list"]]) Y = some (.list (dats [kVar, kList])) := eY
  replace o10 : Old σ9 (upd σ9 Y (.list [.tup [.str "var"], .tup [.str "list"]])) := o10
  generalize upd σ9 Y (.list [.tup [.str "var"], .tup [.str "list"]]) = σ10 at *
  have F10 := F9.old o10
  have I10 := I9.old o10
  refine op_add_list T.ok eY I10.eX (by simp [strg]) fun D hD => ?_
  have DF : D ≠ F := F10.ne hD
  have o11 : Old σ10 (upd σ10 D (.list (dats [kVar, kList] ++ dats (strg g f)))) := (OldX.refl _ _).new hD
  have eD : upd σ10 D (.list (dats [kVar, kList] ++ dats (strg g f))) D = some (.list (dats ([kVar, kList] ++ strg g f ++ []))) := by rw [upd_same]; simp [dats]
  generalize upd σ10 D (.list (dats [kVar, kList] ++ dats (strg g f))) = σ11 at *
  have F11 := F10.old o11
  have I11 := I10.old o11
  clear I9 F9 o10 eY hY
  -- the loop that fills due
  refine X_forI (fun i σ' => OldX [D] σ10 σ' ∧ ∃ V, DueOk ((keysOf cs).take i) V ∧ σ' D = some (.list (dats ([kVar, kList] ++ strg g f ++ V)))) [("due", .obj D), ("strange", .obj X), ("mine", .obj M), ("samples", .obj S), ("block", .obj B), ("many", .int (cs.length : Int)), ("codes", .obj L), ("figures", .obj F)] (by walk_at "sto") ?_
  walk_at "v"
  refine ⟨_, _, src_list I11.eM, I11.eM, by walk_at "sub", ⟨o11.x, [], by simpa using DueOk.nil, eD⟩, ?_, ?_⟩
  · rintro i v σ12 hv ⟨o12, V, hV, eD2⟩ hM2
    refine Ex.gen fun PL ln => ?_
    rw [List.getElem?_map] at hv
    obtain ⟨d, hd, rfl⟩ := Option.map_eq_some_iff.mp hv
    have hdk := hkey d (List.mem_of_getElem? hd)
    have hVl : V.length ≤ 4 := by have := hV.len; rw [List.length_take] at this; omega
    have hVk : ∀ e ∈ [kVar, kList] ++ strg g f ++ V, nb e = true := by
      intro e he
      simp only [List.mem_append, strg, List.mem_cons, List.not_mem_nil, or_false] at he
      rcases he with ((rfl | rfl) | (rfl | rfl)) | he
      · rfl
      · rfl
      · rfl
      · rfl
      · exact (hkey e (List.mem_of_mem_take (hV.only e he).1)).nb
    have hdn : d ∉ strg g f := by
      intro q
      simp only [strg, List.mem_cons, List.not_mem_nil, or_false] at q
      rcases q with rfl | rfl
      · exact strange_const sok (List.mem_of_getElem? hd)
      · exact strange_struct sok (List.mem_of_getElem? hd)
    have MD : M ≠ D := by rintro rfl; rw [I10.eM] at hD; cases hD
    refine X_if ?_
    refine T_cmp ?_
    walk_at "a"
    refine op_notin_list (.inl eD2) hVk hdk.nb ⟨_, rfl, fun q => ?_, fun q => ?_⟩
    · have q := ndt q
      simp only [List.mem_append, List.mem_cons, List.not_mem_nil, or_false, not_or] at q
      refine X_expr ?_
      refine E_append T.ok ?_
      walk_at "v"
      refine ⟨D, rfl, ⟨_, eD2⟩, ?_⟩
      walk_at "v"
      refine ⟨_, eD2, by simp [strg]; omega, rfl, ?_⟩
      refine X_nil (X_nil (ln _ _ _ ⟨by rw [upd_other MD]; exact hM2, by walk_at "sub", o12.put (by simp), V ++ [d], ?_, ?_⟩))
      · rw [take_succ hd]; exact hV.add q.1.1.1 q.1.1.2 q.2
      · rw [upd_same]; simp [dats]
    · have q := ndf q
      simp only [List.mem_append, List.mem_cons, List.not_mem_nil, or_false] at q
      refine X_nil (X_nil (ln _ _ _ ⟨hM2, by walk_at "sub", o12, V, ?_, eD2⟩))
      rw [take_succ hd]
      refine hV.same ?_
      rcases q with ((q | q) | q) | q
      · exact .inl q
      · exact .inr (.inl q)
      · exact absurd q hdn
      · exact .inr (.inr q)
  rintro σ12 ⟨o12, V, hV, eD2⟩ hM2
  rw [List.length_map, List.take_length] at hV
  have o12' : Old σ10 σ12 := o12.old (by simpa using hD)
  have F12 := F10.old o12'
  have I12 := I10.old o12'
  have hVl : V.length ≤ 4 := by have := hV.len; omega
  have hVU := hV.count sok
  have hDs : ∀ d ∈ [kVar, kList] ++ strg g f ++ V, d ∈ samp U g f := by
    intro d hd
    simp only [List.mem_append, strg, List.mem_cons, List.not_mem_nil, or_false] at hd
    rcases hd with ((rfl | rfl) | (rfl | rfl)) | hd
    · rw [mem_samp]; simp
    · rw [mem_samp]; simp
    · rw [mem_samp]; simp
    · rw [mem_samp]; simp
    · exact keys_samp sok (hV.only d hd).1
  clear o11 eD F11 I11 I10 F10 o12 o12' hM2 hD
  -- the lengths, and what is missing
  refine X_if ?_
  refine T_or ?_
  refine T_cmp ?_
  walk_at "blt"
  walk_at "a"
  refine cv_len I12.eS (by simp; omega) ?_
  walk_at "blt"
  walk_at "a"
  refine cv_len eD2 (by simp [strg]; omega) ?_
  refine op_ne rfl rfl ⟨_, rfl, fun q => absurd (by congr 1; simp [samp, strg]; omega) (ndt q), fun _ => ?_⟩
  refine T_cmp ?_
  refine E_cp T hs hcl (by decide) (by rfl) (by decide) ?_
  refine CompSay.byI (fun i acc σ' => Old σ12 σ' ∧ acc = []) [("samples", .obj S)] ⟨rfl, by decide, by rfl, by decide, by rfl, by rfl, by decide, by simp only [List.map_cons, List.map_nil]; decide⟩ ?_
  walk_at "v"
  refine ⟨_, _, by walk_at "sub", src_list eD2, eD2, ⟨OldX.refl _ _, rfl⟩, ?_, ?_⟩
  · rintro cenv j v acc σ13 hcs hj ⟨o13, rfl⟩ hl13
    rw [List.getElem?_map] at hj
    obtain ⟨d, hd, rfl⟩ := Option.map_eq_some_iff.mp hj
    have hds := hDs d (List.mem_of_getElem? hd)
    refine Ts_one ?_
    refine T_cmp ?_
    walk_at "a"
    exact op_notin_list (.inl (I12.old o13).eS) (fun d hd => (hSk d hd).nb) (hSk d hds).nb ⟨_, rfl, fun q => absurd hds (ndt q), fun _ => ⟨hl13, o13, rfl⟩⟩
  rintro acc σ13 ⟨o13, rfl⟩ hl13 Q hQ
  have o14 := o13.new hQ (x := .list [])
  have eQ : upd σ13 Q (.list []) Q = some (.list (dats [])) := upd_same _ _ _
  generalize upd σ13 Q (.list []) = σ14 at *
  refine E_list T.ok ?_
  refine A_nil ⟨by simp, fun R hR => ?_⟩
  have eR : upd σ14 R (.list []) R = some (.list (dats [])) := upd_same _ _ _
  have o15 := o14.new hR (x := .list [])
  have eQ15 := ((OldX.refl [] σ14).new hR (x := .list [])) _ _ (by simp) eQ
  generalize upd σ14 R (.list []) = σ15 at *
  refine op_ne_list eQ15 eR (by simp) (by simp) ⟨_, rfl, fun q => absurd rfl (ndt q), fun _ => ?_⟩
  refine X_nil ?_
  have F15 := F12.old o15
  have I15 := I12.old o15
  clear o13 o14 o15 eQ eQ15 eR hQ hR F12 I12 eD2 hl13
  -- exact, loose
  refine X_assign (by walk_at "sto") ?_
  walk_at "call"
  walk_at "a"
  refine (fn_check T I15.hc I15.eB hB.len hB.nodup (fun k q => hB.safe q k) (b := 16) (by decide) fun re σ16 o16 hre => ?_).up (by decide)
  replace hre : re = true → ∀ y : Ky, y.d ∈ samp U g f → tried cs.length y full = cand (keysOf cs) y.d cs.length := fun e y hy => hre e U g f sok y hy
  have F16 := F15.old o16
  have I16 := I15.old o16
  refine X_assign (by walk_at "sto") ?_
  walk_at "call"
  walk_at "a"
  refine (fn_check T I16.hc I16.eB hB.len hB.nodup (fun k q => hB.safe q k) (b := 16) (by decide) fun rl σ17 o17 hrl => ?_).up (by decide)
  replace hrl : rl = true → ∀ y : Ky, y.d ∈ samp U g f → filt (keysOf cs) y.d (tried cs.length y full) = cand (keysOf cs) y.d cs.length := fun e y hy => hrl e U g f sok y hy
  have F17 := F16.old o17
  have I17 := I16.old o17
  clear I15 F15 I16 F16 o16 o17
  -- calls
  refine X_ac T hs hcl (by decide) (by rfl) (by decide) (by rfl) (by rfl) (by rfl) (by rfl) (by rfl) ?_
  refine CompSay.byI (fun i acc σ' => OldX [F] σ17 σ' ∧ Figs σ' F ∧ ∃ ck, acc = dats ck ∧ (∀ k ∈ ck, IsKey k) ∧ ck.length = i) [("figures", .obj F)] ⟨rfl, by decide, by rfl, by decide, by rfl, by rfl, by decide, by simp only [List.map_cons, List.map_nil]; decide⟩ ?_
  walk_at "blt"
  walk_at "a"
  refine cv_range1 T.ok fun r hr => ?_
  refine ⟨rngItems 0 ((3 : Nat) : Int), fun _ => True, by walk_at "sub", src_rng (upd_same _ _ _) (by decide) (by decide) (by decide) (by decide), trivial, ⟨(OldX.refl _ _).new hr, F17.old ((OldX.refl _ _).new hr), [], rfl, by simp, rfl⟩, ?_, ?_⟩
  · rintro cenv i v acc σ18 hcs hi ⟨o18, F18, ck, rfl, hck, hcl18⟩ _
    obtain ⟨hil, rfl⟩ := rng_get hi
    refine Ts_nil ⟨fun _ => ?_, fun e => (by cases e)⟩
    refine E_fn T hcs (by rfl) (by rfl) ?_
    walk_at "a"
    refine (fn_anykey T F18 fun k σ19 hk o19 F19 => ?_).up (by decide)
    refine ⟨trivial, by simp; omega, o18.trans o19, F19, ck ++ [k], by simp [dats], fun d hd => ?_, by simp; omega⟩
    rcases List.mem_append.mp hd with q | q
    · exact hck d q
    · rw [List.mem_singleton.mp q]; exact hk
  rintro acc σ18 ⟨o18, F18, ck, rfl, hck, hcl18⟩ _ K hK
  rw [rng_len] at hcl18
  obtain ⟨fs, eF, _⟩ := F17
  have I18 : LoopIn L B S M X cs full U g f σ18 := ⟨I17.hc.oldF eF hLF o18, o18 _ _ (by simpa using hBF) I17.eB, o18 _ _ (by simpa using SF) I17.eS, o18 _ _ (by simpa using MF) I17.eM, o18 _ _ (by simpa using XF) I17.eX⟩
  have I19 := I18.old ((OldX.refl _ _).new hK (x := .list (dats ck)))
  refine Ex1.sub ?_ (law_loop T hs hcl I19 hB sok hU (K := K) (upd_same _ _ _) hck (by omega) hre hrl hP)
  walk_at "sub"
end
section
variable {C : Cx} {n : Nat} {env : Env} {m : Vars} {σ σ' σ0 : AH} {P : Out → Vars → AH → Prop} {sc : Scope}

theorem SymOk.oldF {F : Addr} {s : Sym} {rows : List (Int × Int)} {k : Nat} (h : SymOk σ s rows k) (hF : F ∉ s.a :: s.d :: s.xs) (o : OldX [F] σ σ') : SymOk σ' s rows k := by
  simp only [Sym.xs, List.mem_cons, List.not_mem_nil, or_false, not_or] at hF
  have at_ : ∀ b y, ¬ F = b → σ b = some y → σ' b = some y := fun b y hb e => o b y (by simpa using fun q => hb q.symm) e
  obtain ⟨i, ⟨vs, e, l⟩, ⟨kvs, e2, l2, h2⟩, ⟨e3, l3⟩, ⟨kvs', e4, l4, h4⟩, ne⟩ := h
  exact ⟨⟨at_ _ _ hF.1 i.obj, at_ _ _ hF.2.1 i.att⟩, ⟨vs, at_ _ _ hF.2.2.1 e, l⟩, ⟨kvs, at_ _ _ hF.2.2.2.1 e2, l2, h2⟩, ⟨at_ _ _ hF.2.2.2.2.1 e3, l3⟩, ⟨kvs', at_ _ _ hF.2.2.2.2.2 e4, l4, h4⟩, ne⟩

/-- two new ones, and the list of figures -/
theorem CodesOk.snoc {F L a d l : Addr} {cs : List Code} {fs : Vars} {key : PyData} {gs : List Int} (h : CodesOk σ L cs) (hF : σ F = some (.list (iV gs))) (hl : cs.length ≤ 3) (o : OldX [F, L] σ σ') (i : Inst σ' a 365 d fs) (fk : fs.lookup ("key" : Str) = some (.dat key)) (fi : fs.lookup ("instrs" : Str) = some (.obj l))
    (ins : σ' l = some (.list [.dat (.tuple [.str "execute", .int (cs.length : Int)])])) (hk : IsKey key) (eL : σ' L = some (.list (cV cs ++ [.obj a]))) : CodesOk σ' L (cs ++ [⟨a, d, l, fs, key⟩]) := by
  refine ⟨by rw [eL]; simp, fun j c e => ?_, by simp; omega⟩
  rcases Nat.lt_or_ge j cs.length with q | q
  · rw [List.getElem?_append_left q] at e
    have hi := h.each j c e
    have at_ : ∀ b y, b ≠ F → b ≠ L → σ b = some y → σ' b = some y := fun b y hb hb' e => o b y (by simp [hb, hb']) e
    refine ⟨⟨at_ _ _ (ne_k hi.inst.obj hF (by simp)) (ne_k hi.inst.obj h.list (by simp)) hi.inst.obj, at_ _ _ (ne_k hi.inst.att hF (by simp)) (ne_k hi.inst.att h.list (by simp)) hi.inst.att⟩, hi.fk, hi.fi, at_ _ _ (ne_k hi.ins hF ?_) (ne_k hi.ins h.list ?_) hi.ins, hi.key⟩
    · cases gs with
      | nil => simp [iV]
      | cons f fs => simp [iV]
    · cases cs with
      | nil => simp
      | cons c cs => simp
  · rw [List.getElem?_append_right q] at e
    have e0 : j - cs.length = 0 := by
      have := (List.getElem?_eq_some_iff.mp e).1
      simp at this; omega
    rw [e0] at e
    simp only [List.getElem?_cons_zero, Option.some.injEq] at e
    subst e
    have ej : j = cs.length := by omega
    subst ej
    exact ⟨i, fk, fi, ins, hk⟩

theorem law_head (T : Tx C) {l : Addr} {xs : List Value} {ns : List Int}
    (hs : env.scope = sScope (stmtAt 37)) (hcl : ∀ x, (sScope (stmtAt 37)).names.lookup x = some .cell → (env.cells.lookup x).isSome = true)
    (hl : C.h₀.IsList l xs.toArray) (hi : IntsAre xs ns) (hlen : ns.length ≤ 1000)
    (hP : ∀ m σ', P (.ret (.bool true)) m σ') :
    Ex C 8 env [("script", .obj l)] (sBody (stmtAt 37)) σ P := by
  -- figures
  refine X_assign ⟨Or.inr ⟨kind_of hs (by rfl), hcl _ (by rfl)⟩, by rfl⟩ ?_
  walk_at "call"
  walk_at "a"
  refine (fn_figures T hl hi hlen fun F σ1 o1 hF F1 => ?_).up (by decide)
  -- signs
  refine X_assign (by walk_at "sto") ?_
  refine E_nw T hs (by rfl) (by rfl) ?_
  refine A_nil fun sa sd hne hsa hsd => ?_
  refine (fn_symInit T hne hsa hsd fun s rows σ2 hse o2 hn S2 => ⟨rfl, ?_⟩).up (by decide)
  subst hse
  have F2 := F1.old o2
  have hFs : F ∉ s.a :: s.d :: s.xs := fun q => F1.ne (hn _ q) rfl
  clear hn hsa hsd
  -- number
  refine X_assign (by walk_at "sto") ?_
  refine E_vm T (by rfl) S2.inst (by rfl) (by rfl) (by rfl) (by rfl) ?_
  walk_at "a"
  refine (fn_func T S2 (by decide) fun num rows3 σ3 o3 S3 hnum => ?_).up (by decide)
  have F3 : Figs σ3 F := by
    obtain ⟨fs, e, q⟩ := F2
    exact ⟨fs, o3 _ _ (fun q => hFs (by simp [q])) e, q⟩
  -- way
  refine X_assign (by walk_at "sto") ?_
  walk_at "call"
  walk_at "a"
  refine (fn_draw' T F3 (by decide) fun way σ4 hway o4 F4 => ?_).up (by decide)
  have S4 := S3.oldF hFs o4
  -- codes
  refine X_assign (by walk_at "sto") ?_
  refine E_list T.ok ?_
  refine A_nil ⟨by simp, fun L hL => ?_⟩
  have LF : L ≠ F := F4.ne hL
  have o5 : Old σ4 (upd σ4 L (.list [])) := (OldX.refl _ _).new hL
  have eL5 : upd σ4 L (.list []) L = some (.list []) := upd_same _ _ _
  have F5 := F4.old o5
  generalize upd σ4 L (.list []) = σ5 at *
  have H5 : OldX [F, L] σ4 σ5 := o5.x
  refine X_forN (fun i σ' => OldX [F, L] σ4 σ' ∧ Figs σ' F ∧ ∃ cs, CodesOk σ' L cs ∧ cs.length = i) [("codes", .obj L), ("way", .int (way : Int)), ("number", .int (num : Int)), ("signs", .obj s.a), ("figures", .obj F)] (by walk_at "sto") ?_
  walk_at "blt"
  refine A_cons ?_
  refine E_sub ?_
  refine E_list T.ok ?_
  walk_at "a"
  refine ⟨by simp, fun q hq => ?_⟩
  have qF : q ≠ F := F5.ne hq
  have o6 : Old σ5 (upd σ5 q (.list [.int 2, .int 3, .int 4, .int 1, .int 0])) := (OldX.refl _ _).new hq
  have eq6 : upd σ5 q (.list [.int 2, .int 3, .int 4, .int 1, .int 0]) q = some (.list [.int 2, .int 3, .int 4, .int 1, .int 0]) := upd_same _ _ _
  generalize upd σ5 q (.list [.int 2, .int 3, .int 4, .int 1, .int 0]) = σ6 at *
  have F6 := F5.old o6
  walk_at "call"
  walk_at "a"
  refine (fn_draw' T F6 (by decide) fun r σ7 hr o7 F7 => ?_).up (by decide)
  have hlt : r < ([.int 2, .int 3, .int 4, .int 1, .int 0] : List V).length := by
    show r < 5; omega
  obtain ⟨N, hN, eN⟩ : ∃ N : Nat, N ≤ 4 ∧ ([.int 2, .int 3, .int 4, .int 1, .int 0] : List V)[r] = .int (N : Int) := by
    have hm := List.getElem_mem hlt
    generalize ([.int 2, .int 3, .int 4, .int 1, .int 0] : List V)[r] = v at *
    simp only [List.mem_cons, List.not_mem_nil, or_false] at hm
    rcases hm with rfl | rfl | rfl | rfl | rfl
    · exact ⟨2, by decide, rfl⟩
    · exact ⟨3, by decide, rfl⟩
    · exact ⟨4, by decide, rfl⟩
    · exact ⟨1, by decide, rfl⟩
    · exact ⟨0, by decide, rfl⟩
  refine op_item_list (o7 _ _ (by simpa using qF) eq6) (by omega) (List.getElem?_eq_getElem hlt) ?_
  rw [eN]
  refine A_nil ?_
  refine cv_range1 T.ok fun rr hrr => ?_
  have eL7 : σ7 L = some (.list []) := o7 _ _ (by simpa using LF) (o6 _ _ (by simp) eL5)
  have H7 : OldX [F, L] σ4 σ7 := (H5.trans o6.x).trans (o7.mono (by simp))
  clear o6 o7 H5 o5 eL5 F5 F6 eq6 hq
  refine ⟨rr, N, rfl, by rw [upd_same], by omega, by walk_at "sub", ⟨H7.new hrr, F7.old ((OldX.refl _ _).new hrr), [], ⟨upd_old hrr eL7, by simp, by simp⟩, rfl⟩, ?_, ?_⟩
  · rintro i σ8 hiN ⟨o8, F8, cs, hc, rfl⟩
    refine Ex.gen fun PL ln => ?_
    refine X_expr ?_
    refine E_append T.ok ?_
    walk_at "v"
    refine ⟨L, rfl, ⟨_, hc.list⟩, ?_⟩
    refine E_nw T hs (by rfl) (by rfl) ?_
    refine A_cons ?_
    walk_at "v"
    refine A_cons ?_
    walk_at "call"
    walk_at "a"
    refine (fn_anykey T F8 fun key σ9 hk o9 F9 => ?_).up (by decide)
    refine A_cons ?_
    refine E_list T.ok ?_
    refine A_cons ?_
    refine E_tuple ?_
    walk_at "a"
    refine ⟨[.str "execute", .int (cs.length : Int)], rfl, by simp [PyData.depthAll, PyData.depth], by simp, ?_⟩
    refine A_nil ⟨by simp, fun ll hll => ?_⟩
    have llF : ll ≠ F := F9.ne hll
    have o10 : Old σ9 (upd σ9 ll (.list [.tup [.str "execute", .int (cs.length : Int)]])) := (OldX.refl _ _).new hll
    have e10 : upd σ9 ll (.list [.tup [.str "execute", .int (cs.length : Int)]]) ll = some (.list [.dat (.tuple [.str "execute", .int (cs.length : Int)])]) := upd_same _ _ _
    have F10 := F9.old o10
    have eL9 := o9 _ _ (by simpa using LF) hc.list
    have llL : ll ≠ L := by rintro rfl; rw [hll] at eL9; cases eL9
    have eL10 := o10 _ _ (by simp) eL9
    generalize upd σ9 ll (.list [.tup [.str "execute", .int (cs.length : Int)]]) = σ10 at *
    walk_at "a"
    intro a d hne ha hd
    refine (fn_ccInit T hne ha hd fun fs σ11 o11 i11 fk fi => ⟨rfl, ?_⟩).up (by decide)
    have hnew : ∀ b ∈ [a, d], σ10 b = none := by
      intro b hb
      simp only [List.mem_cons, List.not_mem_nil, or_false] at hb
      rcases hb with rfl | rfl
      · exact ha
      · exact hd
    have o11' : Old σ10 σ11 := o11.old hnew
    have eL11 := o11' _ _ (by simp) eL10
    have F11 := F10.old o11'
    refine ⟨_, eL11, by have := hc.len; simp; omega, rfl, ?_⟩
    have o8a : OldX [F, L] σ8 (upd σ11 L (.list (cV cs ++ [.obj a]))) := (((o9.mono (by simp)).trans o10.x).trans o11'.x).put (by simp)
    have aL : a ≠ L := ne_k i11.obj eL11 (by simp)
    have dL : d ≠ L := ne_k i11.att eL11 (by simp)
    have up : ∀ {b : Addr} {y : AObj}, b ≠ L → σ11 b = some y → upd σ11 L (.list (cV cs ++ [.obj a])) b = some y := fun {b y} hb e => by rw [upd_other hb]; exact e
    obtain ⟨gs, eF8, _⟩ := F8
    have F12 : Figs (upd σ11 L (.list (cV cs ++ [.obj a]))) F := by
      obtain ⟨gs, e, q⟩ := F11
      exact ⟨gs, up (fun q => LF q.symm) e, q⟩
    refine X_nil (ln _ _ _ ⟨by walk_at "sub", o8.trans o8a, F12, cs ++ [⟨a, d, ll, fs, key⟩], ?_, by simp⟩)
    exact hc.snoc eF8 (by omega) o8a ⟨up aL i11.obj, up dL i11.att⟩ fk fi (up llL (o11' _ _ (by simp) e10)) hk (upd_same _ _ _)
  rintro σ8 ⟨o8, F8, cs, hc, hcN⟩
  have S8 : SymOk σ8 s rows3 202 := S4.oldF hFs fun b y hb e => o8 b y (by simp at hb; simp [hb]; rintro rfl; rw [hL] at e; cases e) e
  clear o8 H7 F7 F4 S4 S3 F3 S2 F2 o3 o4 hcN eL7 hrr eN hN
  have hclen := hc.len
  -- many
  refine X_assign (by walk_at "sto") ?_
  walk_at "blt"
  walk_at "a"
  refine cv_len hc.list (by simp; omega) ?_
  rw [List.length_map]
  -- block
  refine X_assign (by walk_at "sto") ?_
  walk_at "call"
  walk_at "a"
  refine (fn_index_block T S8 (by decide) hnum hc fun B full σ9 o9 hBn eB hB => ?_).up (by decide)
  refine X_ifJ (ι := Addr × List Row) (fun p σ' => Old σ8 σ' ∧ σ8 p.1 = none ∧ σ' p.1 = some (.list (dats (p.2.map Row.d))) ∧ BlockOk cs.length (keysOf cs) p.2)
    (fun p => [("block", .obj p.1), ("many", .int (cs.length : Int)), ("codes", .obj L), ("way", .int (way : Int)), ("number", .int (num : Int)), ("signs", .obj s.a), ("figures", .obj F)]) ?_ ?_
  · refine fun PJ jn jo => ?_
    refine T_cmp ?_
    walk_at "a"
    refine op_eq rfl rfl ⟨_, rfl, fun _ => ?_, fun _ => X_nil (jn (B, full) _ _ (by walk_at "sub") ⟨o9, hBn, eB, hB⟩)⟩
    have S9 : SymOk σ9 s rows3 202 := S8.oldF hFs o9.x
    have hc9 := hc.old o9
    refine X_assign (by walk_at "sto") ?_
    walk_at "call"
    walk_at "a"
    refine (fn_group_block T S9 (by decide) hnum hc9 fun B' full' σ10 o10 hBn' eB' hB' => ?_).up (by decide)
    exact X_nil (jn (B', full') _ _ (by walk_at "sub") ⟨o9.trans o10, o9.none (by simp) hBn', eB', hB'⟩)
  clear eB hB hBn o9
  rintro ⟨B1, full1⟩ σ10 ⟨o10, hBn1, eB1, hB1⟩
  dsimp only at hBn1 eB1 hB1 ⊢
  refine X_ifJ (ι := Addr × List Row) (fun p σ' => Old σ8 σ' ∧ σ8 p.1 = none ∧ σ' p.1 = some (.list (dats (p.2.map Row.d))) ∧ BlockOk cs.length (keysOf cs) p.2)
    (fun p => [("block", .obj p.1), ("many", .int (cs.length : Int)), ("codes", .obj L), ("figures", .obj F)]) ?_ ?_
  · refine fun PJ jn jo => ?_
    refine T_cmp ?_
    walk_at "a"
    refine op_eq rfl rfl ⟨_, rfl, fun _ => ?_, fun _ => X_nil (jn (B1, full1) _ _ (by walk_at "sub") ⟨o10, hBn1, eB1, hB1⟩)⟩
    have S9 : SymOk σ10 s rows3 202 := S8.oldF hFs o10.x
    have hc9 := hc.old o10
    refine X_assign (by walk_at "sto") ?_
    walk_at "call"
    walk_at "a"
    refine (fn_chain_block T S9 (by decide) hnum hc9 fun B' full' σ11 o11 hBn' eB' hB' => ?_).up (by decide)
    exact X_nil (jn (B', full') _ _ (by walk_at "sub") ⟨o10.trans o11, o10.none (by simp) hBn', eB', hB'⟩)
  clear eB1 hB1 hBn1 o10
  rintro ⟨B2, full2⟩ σ11 ⟨o11, hBn2, eB2, hB2⟩
  dsimp only at hBn2 eB2 hB2 ⊢
  have F11 := F8.old o11
  have BF2 : B2 ≠ F := F8.ne hBn2
  -- spoiled
  refine X_ifJ (ι := Addr × List Row) (fun p σ' => OldX [F] σ8 σ' ∧ Figs σ' F ∧ p.1 ≠ F ∧ σ' p.1 = some (.list (dats (p.2.map Row.d))) ∧ BlockOk cs.length (keysOf cs) p.2)
    (fun p => [("block", .obj p.1), ("many", .int (cs.length : Int)), ("codes", .obj L), ("figures", .obj F)]) ?_ ?_
  · refine fun PJ jn jo => ?_
    refine T_cmp ?_
    walk_at "call"
    walk_at "a"
    refine (fn_draw' T F11 (by decide) fun z σ12 hz o12 F12 => ?_).up (by decide)
    have o12' : OldX [F] σ8 σ12 := o11.x.trans o12
    have eB12 := o12 _ _ (by simpa using BF2) eB2
    walk_at "v"
    refine op_eq rfl rfl ⟨_, rfl, fun _ => ?_, fun _ => X_nil (jn (B2, full2) _ _ (by walk_at "sub") ⟨o12', F12, BF2, eB12, hB2⟩)⟩
    refine X_assign (by walk_at "sto") ?_
    walk_at "call"
    walk_at "a"
    refine (fn_spoiled T F12 eB12 hB2 fun B' full' σ13 o13 F13 hBn' eB' hB' => ?_).up (by decide)
    exact X_nil (jn (B', full') _ _ (by walk_at "sub") ⟨o12'.trans o13, F13, F12.ne hBn', eB', hB'⟩)
  rintro ⟨B3, full3⟩ σ13 ⟨o13, F13, BF3, eB3, hB3⟩
  dsimp only at BF3 eB3 hB3 ⊢
  obtain ⟨gs, eF8, _⟩ := F8
  exact law_mid T hs hcl F13 (hc.oldF eF8 LF o13) eB3 hB3 LF BF3 hP
end
theorem law_frame {C : Cx} (T : Tx C) {fa : Addr} {cd : Value} {nm : Str} {l : Addr} {xs : List Value} {ns : List Int} {h₁ : Heap} {tk : Nat} {dr : Drawn} {s₁ : Shared} {mm cm : Str → Option Value} {news : List (Addr × Obj)}
    (hh : C.h₀ = s₁.heap) (hos : C.os = s₁.os) (hg : s₁.gens = #[]) (hL : s₁.heap.IsList l xs.toArray) (hI : IntsAre xs ns) (hlen : ns.length ≤ 1000)
    (F : Fr s₁.heap s₁.heap.objs.size h₁ mm) (N0 : News s₁.heap s₁.heap.objs.size h₁ news) (X0 : CellsAre cm (cellsFrom (s₁.heap.objs.size + 1) (sScope (stmtAt 37)).names []) news) (hm : mm ("script" : Str) = some (.ref l))
    {Q : Flow → Shared → Prop} {E : Value → Shared → Prop} (hQ : ∀ s', (∀ b o, s₁.heap.get? b = some o → s'.heap.get? b = some o) → s'.os = s₁.os → s'.gens = #[] → Q (.ret (.bool true)) s') :
    wpAny C.M (callerA.deeper (envOfC nm (sScope (stmtAt 37)) s₁.heap.objs.size fa cd)) (execs (sBody (stmtAt 37)) (envOfC nm (sScope (stmtAt 37)) s₁.heap.objs.size fa cd)) Q E { heap := h₁, gens := s₁.gens, drawn := dr, toks := tk, os := s₁.os } := by
  have hsz : (s₁.heap.push { cls := .type "cell", data := .cell none }).objs.size = s₁.heap.objs.size + 1 := by simp [Heap.push]
  have ck := cellsFrom_ok (sScope (stmtAt 37)).names (s₁.heap.push { cls := .type "cell", data := .cell none }) (s₁.heap.objs.size + 1) [] ⟨(by intro n c h; cases h), .nil⟩ (by rw [hsz]; exact Nat.le_refl _)
  rw [hsz] at ck
  have hab : ∀ n c, (n, c) ∈ cellsFrom (s₁.heap.objs.size + 1) (sScope (stmtAt 37)).names [] → s₁.heap.objs.size < c := fun n c h => (ck.empty n c h).2
  have Y := Cl.of_news (own := []) N0 X0 ck.apart hab
  have gn : ∀ a, s₁.heap.objs.size ≤ a → C.h₀.get? a = none := fun a ha => by rw [hh]; exact get_none ha
  have cellsome : ∀ x, (sScope (stmtAt 37)).names.lookup x = some .cell → ((cellsFrom (s₁.heap.objs.size + 1) (sScope (stmtAt 37)).names []).lookup x).isSome = true := fun x hx => cellsFrom_some _ _ _ (.inl hx)
  have S : SR C (fun _ => none) { heap := h₁, gens := s₁.gens, drawn := dr, toks := tk, os := s₁.os } := ⟨fun b o e => F.keep b o (by rw [← hh]; exact e), hg, hos.symm, fun a x e => by cases e⟩
  have FR : FrR C (envOfC nm (sScope (stmtAt 37)) s₁.heap.objs.size fa cd) [("script", .obj l)] (fun _ => none) { heap := h₁, gens := s₁.gens, drawn := dr, toks := tk, os := s₁.os } := by
    refine ⟨⟨by rfl, rfl, rfl⟩, fun x v e => ?_, ⟨_, F.ns⟩, gn _ (Nat.le_refl _), rfl, fun x c e => ⟨⟨_, Y.cell x c e⟩, gn _ (Nat.le_of_lt (Y.above x c (mem_of_lookup e))), rfl⟩, fun y z c ey ez => name_of_addr Y.apart (mem_of_lookup ey) (mem_of_lookup ez)⟩
    rw [List.lookup_cons] at e
    cases hb : x == ("script" : Str) with
    | false => rw [hb] at e; cases e
    | true =>
      rw [hb] at e; cases e
      obtain rfl := beq_iff_eq.mp hb
      exact ⟨by rfl, .inl ⟨by rfl, _, _, F.ns, hm, rfl⟩⟩
  refine law_head (P := fun o _ _ => o = .ret (.bool true)) (env := envOfC nm (sScope (stmtAt 37)) s₁.heap.objs.size fa cd) T rfl cellsome (by rw [hh]; exact hL) hI hlen (fun _ _ => rfl) _ _ ⟨rfl, (by show 1 + claimMargin + 1 + 2 * 8 ≤ 900; decide), (by show 4 + 3 + 20 * 8 + 200 ≤ 9000; decide)⟩ S FR E Q ?_
  intro o f m' σ' s' p e S' F' T'
  subst p
  obtain ⟨x, rfl, r⟩ := e
  obtain rfl := r.boolT
  exact hQ s' (fun b o e => S'.keep b o (by rw [hh]; exact e)) (S'.os.trans hos) S'.gens
noncomputable def sArgs : Stmt → Arguments
  | .FunctionDef _ a .. => a
  | _ => default
noncomputable def kE (P : Params) (x : String) (t : Nat) (v : Value) : DictEntry := ⟨PyData.keyHash P (Str.ofString x), .str (Str.ofString x) t, v⟩
noncomputable def oT (xs : List Value) : Obj := { cls := .type "tuple", data := .seq xs.toArray 0 }
noncomputable def oC (n qn : String) (t : Nat) (a b c d e : Int) (g : Addr) (h : Bool) (i : Addr) (j k l m : Value) (u : Nat) : Obj :=
  { cls := .type "code", data := .fields #[.str (Str.ofString n) t, .str (Str.ofString qn) (t + 1), .str (Str.ofString "/claim/cut.py") (t + 2), .int a 0, .int b 0, .int c 0, .int d 0, .int e 0, .ref g, .bool h, .int 181 0, .ref i, j, k, l, m, .int u 0, .int 1 0, .str (Str.ofString "/claim/cut.py") (u + 1)] }
noncomputable def fD (st : Stmt) (n qn : String) (g : Addr) (df kd doc md : Value) (an : Option Addr) (cd ct : Value) (bi : Addr) : FuncData :=
  { name := Str.ofString n, qualname := Str.ofString qn, params := sArgs st, body := .stmts (sBody st), scope := sScope st, globals := g, closure := [], defaults := df, kwdefaults := kd, doc := doc, pyModule := md, annotations := an, code := cd, closureTuple := ct, builtins := bi }
noncomputable def lf (o : Obj) : BT := .node o .nil .nil
noncomputable def o11_0 : Obj := oT []
noncomputable def o12_0 : Obj := { cls := .none, data := .fields #[] }
noncomputable def o13_0 : Obj := oC "<module>" "<module>" 182 1 0 0 0 0 11 false 12 (.none) (.none) (.none) (.none) 185
noncomputable def o14_0 : Obj := { cls := .type "frame", slots := #[some (.ref 13), some (.ref 3), some (.ref 3), none, some (.str "__main__" 164), none, some (.ref 0)] }
noncomputable def tr0 (P : Params) : BT := (.node (boot_o_0 P) (.node (boot_o_1 P) (.node (boot_o_3 P) (lf (boot_o_7 P)) (lf o11_0)) (.node (boot_o_5 P) (lf (boot_o_9 P)) (lf o13_0))) (.node (boot_o_2 P) (.node (boot_o_4 P) (lf (boot_o_8 P)) (lf o12_0)) (.node (boot_o_6 P) (lf (boot_o_10 P)) (lf o14_0))))
noncomputable def o2_6 (P : Params) : Obj := { cls := .none, data := .dict #[kE P "type.__subclasses__.Exception.0" 212 (.int 31 0), kE P "type.__subclasses__.Exception.n" 213 (.int 1 0)] 2 }
noncomputable def o3_6 (P : Params) : Obj := { cls := .type "dict", data := .dict #[kE P "__name__" 165 (.str "clausemill.symbols" 194), kE P "__doc__" 166 (.none), kE P "__package__" 167 (.none), kE P "__loader__" 168 (.builtin "__main__.__loader__#opaque"), kE P "__spec__" 169 (.none), kE P "__annotations__" 170 (.ref 6), kE P "__builtins__" 171 (.ref 4), kE P "__file__" 173 (.str "/claim/cut.py" 172), kE P "__cached__" 174 (.none), kE P "_wall" 193 (.ref 21), kE P "ClausemillError" 215 (.ref 31), kE P "LinkFault" 241 (.ref 52), kE P "fixed_atoms" 247 (.ref 61), kE P "fixed_functors" 253 (.ref 68)] 14 }
noncomputable def o12_6 : Obj := { cls := .none, data := .fields #[.int 1 0, .int 0 0, .ref 20, .int 5 0, .int 0 0, .ref 27, .int 7 0, .int 0 0, .ref 40, .int 11 0, .int 0 0, .ref 60, .int 13 0, .int 0 0, .ref 67] }
noncomputable def o15_6 : Obj := oT []
noncomputable def o16_6 : Obj := { cls := .none, data := .fields #[] }
noncomputable def o17_6 : Obj := oT [.str "k" 190]
noncomputable def o18_6 : Obj := oT []
noncomputable def o19_6 : Obj := { cls := .none, data := .func (fD (stmtAt 0) "_wall" "_wall" 0 (.none) (.none) (.none) (.none) (none) (.none) (.none) 0) }
noncomputable def o20_6 : Obj := oC "_wall" "_wall" 187 1 1 0 0 3 15 true 16 (.none) (.ref 17) (.ref 18) (.ref 19) 191
noncomputable def o21_6 : Obj := { cls := .type "function", data := .func (fD (stmtAt 0) "_wall" "_wall" 3 (.none) (.none) (.none) (.str "__main__" 164) (none) (.ref 20) (.none) 0) }
noncomputable def o22_6 : Obj := oT [.type "Exception"]
noncomputable def o23_6 : Obj := { cls := .type "builtin_function_or_method", data := .fields #[.builtin "type.__prepare__", .type "type"] }
noncomputable def o24_6 (P : Params) : Obj := { cls := .type "dict", data := .dict #[kE P "__module__" 203 (.str "clausemill.symbols" 194), kE P "__qualname__" 205 (.str "ClausemillError" 204), kE P "__firstlineno__" 207 (.int 5 206), kE P "__static_attributes__" 208 (.ref 29)] 4 }
noncomputable def o25_6 : Obj := oT []
noncomputable def o26_6 : Obj := { cls := .none, data := .fields #[] }
noncomputable def o27_6 : Obj := { cls := .type "code", data := .fields #[.str "ClausemillError" 198, .str "ClausemillError" 199, .str "/claim/cut.py" 200, .int 5 0, .int 0 0, .int 0 0, .int 0 0, .int 0 0, .ref 25, .bool false, .int 181 0, .ref 26, .none, .none, .none, .none, .int 201 0, .int 5 0, .str "/claim/cut.py" 202] }
noncomputable def o28_6 : Obj := { cls := .type "frame", slots := #[some (.ref 27), some (.ref 3), some (.ref 24), none, some (.str "clausemill.symbols" 194), none, some (.ref 0)] }
noncomputable def o29_6 : Obj := oT []
noncomputable def o30_6 (P : Params) : Obj := { cls := .type "dict", data := .dict #[kE P "__module__" 203 (.str "clausemill.symbols" 194), kE P "__firstlineno__" 207 (.int 5 206), kE P "__static_attributes__" 208 (.ref 29), kE P "__weakref__" 210 (.ref 32), kE P "__doc__" 211 (.none)] 3 }
noncomputable def o31_6 : Obj := { cls := .type "type", data := .cls { name := "ClausemillError", bases := [.type "Exception"], mro := [.ref 31, .type "Exception", .type "BaseException", .type "object"], ns := 30, qualname := "ClausemillError", subclasses := [.ref 52] }, slots := #[some (.ref 22), none, some (.str "ClausemillError" 196), some (.str "ClausemillError" 204), some (.builtin "Exception.__new__"), some (.bool true)] }
noncomputable def o32_6 : Obj := { cls := .type "getset_descriptor", data := .fields #[.str "__weakref__" 209, .ref 31, .builtin "ExceptionGroup.__weakref__", .none] }
noncomputable def o33_6 : Obj := { cls := .type "super", data := .fields #[.ref 31, .ref 31, .ref 31] }
noncomputable def o34_6 : Obj := { cls := .type "builtin_function_or_method", data := .fields #[.builtin "object.__init_subclass__", .ref 31] }
noncomputable def o35_6 : Obj := oT [.ref 31]
noncomputable def o36_6 : Obj := { cls := .type "builtin_function_or_method", data := .fields #[.builtin "type.__prepare__", .type "type"] }
noncomputable def o37_6 (P : Params) : Obj := { cls := .type "dict", data := .dict #[kE P "__module__" 223 (.str "clausemill.symbols" 194), kE P "__qualname__" 225 (.str "LinkFault" 224), kE P "__firstlineno__" 227 (.int 7 226), kE P "__init__" 236 (.ref 49), kE P "__static_attributes__" 238 (.ref 50)] 5 }
noncomputable def o38_6 : Obj := oT []
noncomputable def o39_6 : Obj := { cls := .none, data := .fields #[.int 9 0, .int 4 0, .ref 48] }
noncomputable def o40_6 : Obj := { cls := .type "code", data := .fields #[.str "LinkFault" 218, .str "LinkFault" 219, .str "/claim/cut.py" 220, .int 7 0, .int 0 0, .int 0 0, .int 0 0, .int 0 0, .ref 38, .bool false, .int 181 0, .ref 39, .none, .none, .none, .none, .int 221 0, .int 7 0, .str "/claim/cut.py" 222] }
noncomputable def o41_6 : Obj := { cls := .type "frame", slots := #[some (.ref 40), some (.ref 3), some (.ref 37), none, some (.str "clausemill.symbols" 194), none, some (.ref 0)] }
noncomputable def o42_6 : Obj := oT [.str "" 228]
noncomputable def o43_6 : Obj := oT []
noncomputable def o44_6 : Obj := { cls := .none, data := .fields #[] }
noncomputable def o45_6 : Obj := oT [.str "self" 232, .str "what" 233]
noncomputable def o46_6 : Obj := oT []
noncomputable def o47_6 : Obj := { cls := .none, data := .func (fD (methAt 3 0) "__init__" "LinkFault.__init__" 0 (.none) (.none) (.none) (.none) (none) (.none) (.none) 0) }
noncomputable def o48_6 : Obj := { cls := .type "code", data := .fields #[.str "__init__" 229, .str "LinkFault.__init__" 230, .str "/claim/cut.py" 231, .int 9 0, .int 2 0, .int 0 0, .int 0 0, .int 3 0, .ref 43, .bool true, .int 181 0, .ref 44, .none, .ref 45, .ref 46, .ref 47, .int 234 0, .int 9 0, .str "/claim/cut.py" 235] }
noncomputable def o49_6 : Obj := { cls := .type "function", data := .func (fD (methAt 3 0) "__init__" "LinkFault.__init__" 3 (.ref 42) (.none) (.none) (.str "clausemill.symbols" 194) (none) (.ref 48) (.none) 0) }
noncomputable def o50_6 : Obj := oT [.str "what" 237]
noncomputable def o51_6 (P : Params) : Obj := { cls := .type "dict", data := .dict #[kE P "__module__" 223 (.str "clausemill.symbols" 194), kE P "__firstlineno__" 227 (.int 7 226), kE P "__init__" 236 (.ref 49), kE P "__static_attributes__" 238 (.ref 50), kE P "__doc__" 239 (.none)] 2 }
noncomputable def o52_6 : Obj := { cls := .type "type", data := .cls { name := "LinkFault", bases := [.ref 31], mro := [.ref 52, .ref 31, .type "Exception", .type "BaseException", .type "object"], ns := 51, qualname := "LinkFault" }, slots := #[some (.ref 35), none, some (.str "LinkFault" 216), some (.str "LinkFault" 224), some (.builtin "Exception.__new__"), some (.bool true)] }
noncomputable def o53_6 : Obj := { cls := .type "super", data := .fields #[.ref 52, .ref 52, .ref 52] }
noncomputable def o54_6 : Obj := { cls := .type "builtin_function_or_method", data := .fields #[.builtin "object.__init_subclass__", .ref 52] }
noncomputable def o55_6 : Obj := oT []
noncomputable def o56_6 : Obj := { cls := .none, data := .fields #[] }
noncomputable def o57_6 : Obj := oT []
noncomputable def o58_6 : Obj := oT []
noncomputable def o59_6 : Obj := { cls := .none, data := .func (fD (stmtAt 4) "fixed_atoms" "fixed_atoms" 0 (.none) (.none) (.none) (.none) (none) (.none) (.none) 0) }
noncomputable def o60_6 : Obj := { cls := .type "code", data := .fields #[.str "fixed_atoms" 242, .str "fixed_atoms" 243, .str "/claim/cut.py" 244, .int 11 0, .int 0 0, .int 0 0, .int 0 0, .int 3 0, .ref 55, .bool true, .int 181 0, .ref 56, .none, .ref 57, .ref 58, .ref 59, .int 245 0, .int 11 0, .str "/claim/cut.py" 246] }
noncomputable def o61_6 : Obj := { cls := .type "function", data := .func (fD (stmtAt 4) "fixed_atoms" "fixed_atoms" 3 (.none) (.none) (.none) (.str "clausemill.symbols" 194) (none) (.ref 60) (.none) 0) }
noncomputable def o62_6 : Obj := oT []
noncomputable def o63_6 : Obj := { cls := .none, data := .fields #[] }
noncomputable def o64_6 : Obj := oT []
noncomputable def o65_6 : Obj := oT []
noncomputable def o66_6 : Obj := { cls := .none, data := .func (fD (stmtAt 5) "fixed_functors" "fixed_functors" 0 (.none) (.none) (.none) (.none) (none) (.none) (.none) 0) }
noncomputable def o67_6 : Obj := { cls := .type "code", data := .fields #[.str "fixed_functors" 248, .str "fixed_functors" 249, .str "/claim/cut.py" 250, .int 13 0, .int 0 0, .int 0 0, .int 0 0, .int 3 0, .ref 62, .bool true, .int 181 0, .ref 63, .none, .ref 64, .ref 65, .ref 66, .int 251 0, .int 13 0, .str "/claim/cut.py" 252] }
noncomputable def o68_6 : Obj := { cls := .type "function", data := .func (fD (stmtAt 5) "fixed_functors" "fixed_functors" 3 (.none) (.none) (.none) (.str "clausemill.symbols" 194) (none) (.ref 67) (.none) 0) }
noncomputable def tr6 (P : Params) : BT := (.node (boot_o_0 P) (.node (boot_o_1 P) (.node (o3_6 P) (.node (boot_o_7 P) (.node o15_6 (.node o31_6 (lf o63_6) .nil) (lf o47_6)) (.node o23_6 (lf o39_6) (lf o55_6))) (.node o11_0 (.node o19_6 (.node o35_6 (lf o67_6) .nil) (lf (o51_6 P))) (.node o27_6 (lf o43_6) (lf o59_6)))) (.node (boot_o_5 P) (.node (boot_o_9 P) (.node o17_6 (.node o33_6 (lf o65_6) .nil) (lf o49_6)) (.node o25_6 (lf o41_6) (lf o57_6))) (.node o13_0 (.node o21_6 (lf (o37_6 P)) (lf o53_6)) (.node o29_6 (lf o45_6) (lf o61_6))))) (.node (o2_6 P) (.node (boot_o_4 P) (.node (boot_o_8 P) (.node o16_6 (.node o32_6 (lf o64_6) .nil) (lf o48_6)) (.node (o24_6 P) (lf o40_6) (lf o56_6))) (.node o12_6 (.node o20_6 (.node o36_6 (lf o68_6) .nil) (lf o52_6)) (.node o28_6 (lf o44_6) (lf o60_6)))) (.node (boot_o_6 P) (.node (boot_o_10 P) (.node o18_6 (.node o34_6 (lf o66_6) .nil) (lf o50_6)) (.node o26_6 (lf o42_6) (lf o58_6))) (.node o14_0 (.node o22_6 (lf o38_6) (lf o54_6)) (.node (o30_6 P) (lf o46_6) (lf o62_6))))))
noncomputable def o3_18 (P : Params) : Obj := { cls := .type "dict", data := .dict #[kE P "__name__" 165 (.str "clausemill.indexer" 379), kE P "__doc__" 166 (.none), kE P "__package__" 167 (.none), kE P "__loader__" 168 (.builtin "__main__.__loader__#opaque"), kE P "__spec__" 169 (.none), kE P "__annotations__" 170 (.ref 6), kE P "__builtins__" 171 (.ref 4), kE P "__file__" 173 (.str "/claim/cut.py" 172), kE P "__cached__" 174 (.none), kE P "_wall" 193 (.ref 21), kE P "ClausemillError" 215 (.ref 31), kE P "LinkFault" 241 (.ref 52), kE P "fixed_atoms" 247 (.ref 61), kE P "fixed_functors" 253 (.ref 68), kE P "Symbols" 374 (.ref 155), kE P "CON" 376 (.int 4 375), kE P "INT" 378 (.int 5 377), kE P "VAR_KEY" 382 (.ref 160), kE P "LIST_KEY" 384 (.ref 161), kE P "FAIL_LABEL" 387 (.int (-1) 386), kE P "const_key" 394 (.ref 168), kE P "struct_key" 401 (.ref 175), kE P "matching" 409 (.ref 182), kE P "candidates" 419 (.ref 189), kE P "all_variable" 427 (.ref 196)] 25 }
noncomputable def o12_18 : Obj := { cls := .none, data := .fields #[.int 1 0, .int 0 0, .ref 20, .int 5 0, .int 0 0, .ref 27, .int 7 0, .int 0 0, .ref 40, .int 11 0, .int 0 0, .ref 60, .int 13 0, .int 0 0, .ref 67, .int 15 0, .int 0 0, .ref 74, .int 79 0, .int 0 0, .ref 167, .int 81 0, .int 0 0, .ref 174, .int 83 0, .int 0 0, .ref 181, .int 87 0, .int 0 0, .ref 188, .int 93 0, .int 0 0, .ref 195] }
noncomputable def o69_18 : Obj := oT []
noncomputable def o70_18 : Obj := { cls := .type "builtin_function_or_method", data := .fields #[.builtin "type.__prepare__", .type "type"] }
noncomputable def o71_18 (P : Params) : Obj := { cls := .type "dict", data := .dict #[kE P "__module__" 261 (.str "clausemill.symbols" 194), kE P "__qualname__" 263 (.str "Symbols" 262), kE P "__firstlineno__" 265 (.int 15 264), kE P "__init__" 274 (.ref 82), kE P "atom" 284 (.ref 89), kE P "text" 292 (.ref 96), kE P "functor" 304 (.ref 103), kE P "func" 313 (.ref 110), kE P "name" 321 (.ref 117), kE P "arity" 329 (.ref 124), kE P "label" 338 (.ref 131), kE P "count" 345 (.ref 138), kE P "functor_count" 352 (.ref 145), kE P "known" 362 (.ref 152), kE P "__static_attributes__" 367 (.ref 153)] 15 }
noncomputable def o72_18 : Obj := oT []
noncomputable def o73_18 : Obj := { cls := .none, data := .fields #[.int 17 0, .int 4 0, .ref 81, .int 27 0, .int 4 0, .ref 88, .int 36 0, .int 4 0, .ref 95, .int 39 0, .int 4 0, .ref 102, .int 49 0, .int 4 0, .ref 109, .int 52 0, .int 4 0, .ref 116, .int 55 0, .int 4 0, .ref 123, .int 58 0, .int 4 0, .ref 130, .int 62 0, .int 4 0, .ref 137, .int 65 0, .int 4 0, .ref 144, .int 68 0, .int 4 0, .ref 151] }
noncomputable def o74_18 : Obj := { cls := .type "code", data := .fields #[.str "Symbols" 256, .str "Symbols" 257, .str "/claim/cut.py" 258, .int 15 0, .int 0 0, .int 0 0, .int 0 0, .int 0 0, .ref 72, .bool false, .int 181 0, .ref 73, .none, .none, .none, .none, .int 259 0, .int 15 0, .str "/claim/cut.py" 260] }
noncomputable def o75_18 : Obj := { cls := .type "frame", slots := #[some (.ref 74), some (.ref 3), some (.ref 71), none, some (.str "clausemill.symbols" 194), none, some (.ref 0)] }
noncomputable def o76_18 : Obj := oT []
noncomputable def o77_18 : Obj := { cls := .none, data := .fields #[] }
noncomputable def o78_18 : Obj := oT [.str "self" 269, .str "text" 270, .str "row" 271]
noncomputable def o79_18 : Obj := oT []
noncomputable def o80_18 : Obj := { cls := .none, data := .func (fD (methAt 6 0) "__init__" "Symbols.__init__" 0 (.none) (.none) (.none) (.none) (none) (.none) (.none) 0) }
noncomputable def o81_18 : Obj := { cls := .type "code", data := .fields #[.str "__init__" 266, .str "Symbols.__init__" 267, .str "/claim/cut.py" 268, .int 17 0, .int 1 0, .int 0 0, .int 0 0, .int 3 0, .ref 76, .bool true, .int 181 0, .ref 77, .none, .ref 78, .ref 79, .ref 80, .int 272 0, .int 17 0, .str "/claim/cut.py" 273] }
noncomputable def o82_18 : Obj := { cls := .type "function", data := .func (fD (methAt 6 0) "__init__" "Symbols.__init__" 3 (.none) (.none) (.none) (.str "clausemill.symbols" 194) (none) (.ref 81) (.none) 0) }
noncomputable def o83_18 : Obj := oT []
noncomputable def o84_18 : Obj := { cls := .none, data := .fields #[] }
noncomputable def o85_18 : Obj := oT [.str "self" 278, .str "text" 279, .str "found" 280, .str "number" 281]
noncomputable def o86_18 : Obj := oT []
noncomputable def o87_18 : Obj := { cls := .none, data := .func (fD (methAt 6 1) "atom" "Symbols.atom" 0 (.none) (.none) (.none) (.none) (none) (.none) (.none) 0) }
noncomputable def o88_18 : Obj := { cls := .type "code", data := .fields #[.str "atom" 275, .str "Symbols.atom" 276, .str "/claim/cut.py" 277, .int 27 0, .int 2 0, .int 0 0, .int 0 0, .int 3 0, .ref 83, .bool true, .int 181 0, .ref 84, .none, .ref 85, .ref 86, .ref 87, .int 282 0, .int 27 0, .str "/claim/cut.py" 283] }
noncomputable def o89_18 : Obj := { cls := .type "function", data := .func (fD (methAt 6 1) "atom" "Symbols.atom" 3 (.none) (.none) (.none) (.str "clausemill.symbols" 194) (none) (.ref 88) (.none) 0) }
noncomputable def o90_18 : Obj := oT []
noncomputable def o91_18 : Obj := { cls := .none, data := .fields #[] }
noncomputable def o92_18 : Obj := oT [.str "self" 288, .str "number" 289]
noncomputable def o93_18 : Obj := oT []
noncomputable def o94_18 : Obj := { cls := .none, data := .func (fD (methAt 6 2) "text" "Symbols.text" 0 (.none) (.none) (.none) (.none) (none) (.none) (.none) 0) }
noncomputable def o95_18 : Obj := { cls := .type "code", data := .fields #[.str "text" 285, .str "Symbols.text" 286, .str "/claim/cut.py" 287, .int 36 0, .int 2 0, .int 0 0, .int 0 0, .int 3 0, .ref 90, .bool true, .int 181 0, .ref 91, .none, .ref 92, .ref 93, .ref 94, .int 290 0, .int 36 0, .str "/claim/cut.py" 291] }
noncomputable def o96_18 : Obj := { cls := .type "function", data := .func (fD (methAt 6 2) "text" "Symbols.text" 3 (.none) (.none) (.none) (.str "clausemill.symbols" 194) (none) (.ref 95) (.none) 0) }
noncomputable def o97_18 : Obj := oT []
noncomputable def o98_18 : Obj := { cls := .none, data := .fields #[] }
noncomputable def o99_18 : Obj := oT [.str "self" 296, .str "atom" 297, .str "arity" 298, .str "key" 299, .str "found" 300, .str "number" 301]
noncomputable def o100_18 : Obj := oT []
noncomputable def o101_18 : Obj := { cls := .none, data := .func (fD (methAt 6 3) "functor" "Symbols.functor" 0 (.none) (.none) (.none) (.none) (none) (.none) (.none) 0) }
noncomputable def o102_18 : Obj := { cls := .type "code", data := .fields #[.str "functor" 293, .str "Symbols.functor" 294, .str "/claim/cut.py" 295, .int 39 0, .int 3 0, .int 0 0, .int 0 0, .int 3 0, .ref 97, .bool true, .int 181 0, .ref 98, .none, .ref 99, .ref 100, .ref 101, .int 302 0, .int 39 0, .str "/claim/cut.py" 303] }
noncomputable def o103_18 : Obj := { cls := .type "function", data := .func (fD (methAt 6 3) "functor" "Symbols.functor" 3 (.none) (.none) (.none) (.str "clausemill.symbols" 194) (none) (.ref 102) (.none) 0) }
noncomputable def o104_18 : Obj := oT []
noncomputable def o105_18 : Obj := { cls := .none, data := .fields #[] }
noncomputable def o106_18 : Obj := oT [.str "self" 308, .str "text" 309, .str "arity" 310]
noncomputable def o107_18 : Obj := oT []
noncomputable def o108_18 : Obj := { cls := .none, data := .func (fD (methAt 6 4) "func" "Symbols.func" 0 (.none) (.none) (.none) (.none) (none) (.none) (.none) 0) }
noncomputable def o109_18 : Obj := { cls := .type "code", data := .fields #[.str "func" 305, .str "Symbols.func" 306, .str "/claim/cut.py" 307, .int 49 0, .int 3 0, .int 0 0, .int 0 0, .int 3 0, .ref 104, .bool true, .int 181 0, .ref 105, .none, .ref 106, .ref 107, .ref 108, .int 311 0, .int 49 0, .str "/claim/cut.py" 312] }
noncomputable def o110_18 : Obj := { cls := .type "function", data := .func (fD (methAt 6 4) "func" "Symbols.func" 3 (.none) (.none) (.none) (.str "clausemill.symbols" 194) (none) (.ref 109) (.none) 0) }
noncomputable def o111_18 : Obj := oT []
noncomputable def o112_18 : Obj := { cls := .none, data := .fields #[] }
noncomputable def o113_18 : Obj := oT [.str "self" 317, .str "functor" 318]
noncomputable def o114_18 : Obj := oT []
noncomputable def o115_18 : Obj := { cls := .none, data := .func (fD (methAt 6 5) "name" "Symbols.name" 0 (.none) (.none) (.none) (.none) (none) (.none) (.none) 0) }
noncomputable def o116_18 : Obj := { cls := .type "code", data := .fields #[.str "name" 314, .str "Symbols.name" 315, .str "/claim/cut.py" 316, .int 52 0, .int 2 0, .int 0 0, .int 0 0, .int 3 0, .ref 111, .bool true, .int 181 0, .ref 112, .none, .ref 113, .ref 114, .ref 115, .int 319 0, .int 52 0, .str "/claim/cut.py" 320] }
noncomputable def o117_18 : Obj := { cls := .type "function", data := .func (fD (methAt 6 5) "name" "Symbols.name" 3 (.none) (.none) (.none) (.str "clausemill.symbols" 194) (none) (.ref 116) (.none) 0) }
noncomputable def o118_18 : Obj := oT []
noncomputable def o119_18 : Obj := { cls := .none, data := .fields #[] }
noncomputable def o120_18 : Obj := oT [.str "self" 325, .str "functor" 326]
noncomputable def o121_18 : Obj := oT []
noncomputable def o122_18 : Obj := { cls := .none, data := .func (fD (methAt 6 6) "arity" "Symbols.arity" 0 (.none) (.none) (.none) (.none) (none) (.none) (.none) 0) }
noncomputable def o123_18 : Obj := { cls := .type "code", data := .fields #[.str "arity" 322, .str "Symbols.arity" 323, .str "/claim/cut.py" 324, .int 55 0, .int 2 0, .int 0 0, .int 0 0, .int 3 0, .ref 118, .bool true, .int 181 0, .ref 119, .none, .ref 120, .ref 121, .ref 122, .int 327 0, .int 55 0, .str "/claim/cut.py" 328] }
noncomputable def o124_18 : Obj := { cls := .type "function", data := .func (fD (methAt 6 6) "arity" "Symbols.arity" 3 (.none) (.none) (.none) (.str "clausemill.symbols" 194) (none) (.ref 123) (.none) 0) }
noncomputable def o125_18 : Obj := oT []
noncomputable def o126_18 : Obj := { cls := .none, data := .fields #[] }
noncomputable def o127_18 : Obj := oT [.str "self" 333, .str "functor" 334, .str "row" 335]
noncomputable def o128_18 : Obj := oT []
noncomputable def o129_18 : Obj := { cls := .none, data := .func (fD (methAt 6 7) "label" "Symbols.label" 0 (.none) (.none) (.none) (.none) (none) (.none) (.none) 0) }
noncomputable def o130_18 : Obj := { cls := .type "code", data := .fields #[.str "label" 330, .str "Symbols.label" 331, .str "/claim/cut.py" 332, .int 58 0, .int 2 0, .int 0 0, .int 0 0, .int 3 0, .ref 125, .bool true, .int 181 0, .ref 126, .none, .ref 127, .ref 128, .ref 129, .int 336 0, .int 58 0, .str "/claim/cut.py" 337] }
noncomputable def o131_18 : Obj := { cls := .type "function", data := .func (fD (methAt 6 7) "label" "Symbols.label" 3 (.none) (.none) (.none) (.str "clausemill.symbols" 194) (none) (.ref 130) (.none) 0) }
noncomputable def o132_18 : Obj := oT []
noncomputable def o133_18 : Obj := { cls := .none, data := .fields #[] }
noncomputable def o134_18 : Obj := oT [.str "self" 342]
noncomputable def o135_18 : Obj := oT []
noncomputable def o136_18 : Obj := { cls := .none, data := .func (fD (methAt 6 8) "count" "Symbols.count" 0 (.none) (.none) (.none) (.none) (none) (.none) (.none) 0) }
noncomputable def o137_18 : Obj := { cls := .type "code", data := .fields #[.str "count" 339, .str "Symbols.count" 340, .str "/claim/cut.py" 341, .int 62 0, .int 1 0, .int 0 0, .int 0 0, .int 3 0, .ref 132, .bool true, .int 181 0, .ref 133, .none, .ref 134, .ref 135, .ref 136, .int 343 0, .int 62 0, .str "/claim/cut.py" 344] }
noncomputable def o138_18 : Obj := { cls := .type "function", data := .func (fD (methAt 6 8) "count" "Symbols.count" 3 (.none) (.none) (.none) (.str "clausemill.symbols" 194) (none) (.ref 137) (.none) 0) }
noncomputable def o139_18 : Obj := oT []
noncomputable def o140_18 : Obj := { cls := .none, data := .fields #[] }
noncomputable def o141_18 : Obj := oT [.str "self" 349]
noncomputable def o142_18 : Obj := oT []
noncomputable def o143_18 : Obj := { cls := .none, data := .func (fD (methAt 6 9) "functor_count" "Symbols.functor_count" 0 (.none) (.none) (.none) (.none) (none) (.none) (.none) 0) }
noncomputable def o144_18 : Obj := { cls := .type "code", data := .fields #[.str "functor_count" 346, .str "Symbols.functor_count" 347, .str "/claim/cut.py" 348, .int 65 0, .int 1 0, .int 0 0, .int 0 0, .int 3 0, .ref 139, .bool true, .int 181 0, .ref 140, .none, .ref 141, .ref 142, .ref 143, .int 350 0, .int 65 0, .str "/claim/cut.py" 351] }
noncomputable def o145_18 : Obj := { cls := .type "function", data := .func (fD (methAt 6 9) "functor_count" "Symbols.functor_count" 3 (.none) (.none) (.none) (.str "clausemill.symbols" 194) (none) (.ref 144) (.none) 0) }
noncomputable def o146_18 : Obj := oT []
noncomputable def o147_18 : Obj := { cls := .none, data := .fields #[] }
noncomputable def o148_18 : Obj := oT [.str "self" 356, .str "text" 357, .str "arity" 358, .str "atom" 359]
noncomputable def o149_18 : Obj := oT []
noncomputable def o150_18 : Obj := { cls := .none, data := .func (fD (methAt 6 10) "known" "Symbols.known" 0 (.none) (.none) (.none) (.none) (none) (.none) (.none) 0) }
noncomputable def o151_18 : Obj := { cls := .type "code", data := .fields #[.str "known" 353, .str "Symbols.known" 354, .str "/claim/cut.py" 355, .int 68 0, .int 3 0, .int 0 0, .int 0 0, .int 3 0, .ref 146, .bool true, .int 181 0, .ref 147, .none, .ref 148, .ref 149, .ref 150, .int 360 0, .int 68 0, .str "/claim/cut.py" 361] }
noncomputable def o152_18 : Obj := { cls := .type "function", data := .func (fD (methAt 6 10) "known" "Symbols.known" 3 (.none) (.none) (.none) (.str "clausemill.symbols" 194) (none) (.ref 151) (.none) 0) }
noncomputable def o153_18 : Obj := oT [.str "atom_numbers" 363, .str "functor_numbers" 364, .str "functors" 365, .str "texts" 366]
noncomputable def o154_18 (P : Params) : Obj := { cls := .type "dict", data := .dict #[kE P "__module__" 261 (.str "clausemill.symbols" 194), kE P "__firstlineno__" 265 (.int 15 264), kE P "__init__" 274 (.ref 82), kE P "atom" 284 (.ref 89), kE P "text" 292 (.ref 96), kE P "functor" 304 (.ref 103), kE P "func" 313 (.ref 110), kE P "name" 321 (.ref 117), kE P "arity" 329 (.ref 124), kE P "label" 338 (.ref 131), kE P "count" 345 (.ref 138), kE P "functor_count" 352 (.ref 145), kE P "known" 362 (.ref 152), kE P "__static_attributes__" 367 (.ref 153), kE P "__dict__" 369 (.ref 156), kE P "__weakref__" 371 (.ref 157), kE P "__doc__" 372 (.none)] 4 }
noncomputable def o155_18 : Obj := { cls := .type "type", data := .cls { name := "Symbols", bases := [.type "object"], mro := [.ref 155, .type "object"], ns := 154, qualname := "Symbols" }, slots := #[none, none, some (.str "Symbols" 254), some (.str "Symbols" 262), some (.builtin "object.__new__"), some (.bool true)] }
noncomputable def o156_18 : Obj := { cls := .type "getset_descriptor", data := .fields #[.str "__dict__" 368, .ref 155, .builtin "function.__dict__", .builtin "function.__dict__#set"] }
noncomputable def o157_18 : Obj := { cls := .type "getset_descriptor", data := .fields #[.str "__weakref__" 370, .ref 155, .builtin "ExceptionGroup.__weakref__", .none] }
noncomputable def o158_18 : Obj := { cls := .type "super", data := .fields #[.ref 155, .ref 155, .ref 155] }
noncomputable def o159_18 : Obj := { cls := .type "builtin_function_or_method", data := .fields #[.builtin "object.__init_subclass__", .ref 155] }
noncomputable def o160_18 : Obj := oT [.str "var" 381]
noncomputable def o161_18 : Obj := oT [.str "list" 383]
noncomputable def o162_18 : Obj := oT []
noncomputable def o163_18 : Obj := { cls := .none, data := .fields #[] }
noncomputable def o164_18 : Obj := oT [.str "cell" 391]
noncomputable def o165_18 : Obj := oT []
noncomputable def o166_18 : Obj := { cls := .none, data := .func (fD (stmtAt 13) "const_key" "const_key" 0 (.none) (.none) (.none) (.none) (none) (.none) (.none) 0) }
noncomputable def o167_18 : Obj := { cls := .type "code", data := .fields #[.str "const_key" 388, .str "const_key" 389, .str "/claim/cut.py" 390, .int 79 0, .int 1 0, .int 0 0, .int 0 0, .int 3 0, .ref 162, .bool true, .int 181 0, .ref 163, .none, .ref 164, .ref 165, .ref 166, .int 392 0, .int 79 0, .str "/claim/cut.py" 393] }
noncomputable def o168_18 : Obj := { cls := .type "function", data := .func (fD (stmtAt 13) "const_key" "const_key" 3 (.none) (.none) (.none) (.str "clausemill.indexer" 379) (none) (.ref 167) (.none) 0) }
noncomputable def o169_18 : Obj := oT []
noncomputable def o170_18 : Obj := { cls := .none, data := .fields #[] }
noncomputable def o171_18 : Obj := oT [.str "functor" 398]
noncomputable def o172_18 : Obj := oT []
noncomputable def o173_18 : Obj := { cls := .none, data := .func (fD (stmtAt 14) "struct_key" "struct_key" 0 (.none) (.none) (.none) (.none) (none) (.none) (.none) 0) }
noncomputable def o174_18 : Obj := { cls := .type "code", data := .fields #[.str "struct_key" 395, .str "struct_key" 396, .str "/claim/cut.py" 397, .int 81 0, .int 1 0, .int 0 0, .int 0 0, .int 3 0, .ref 169, .bool true, .int 181 0, .ref 170, .none, .ref 171, .ref 172, .ref 173, .int 399 0, .int 81 0, .str "/claim/cut.py" 400] }
noncomputable def o175_18 : Obj := { cls := .type "function", data := .func (fD (stmtAt 14) "struct_key" "struct_key" 3 (.none) (.none) (.none) (.str "clausemill.indexer" 379) (none) (.ref 174) (.none) 0) }
noncomputable def o176_18 : Obj := oT []
noncomputable def o177_18 : Obj := { cls := .none, data := .fields #[] }
noncomputable def o178_18 : Obj := oT [.str "key" 405, .str "cell_key" 406]
noncomputable def o179_18 : Obj := oT []
noncomputable def o180_18 : Obj := { cls := .none, data := .func (fD (stmtAt 15) "matching" "matching" 0 (.none) (.none) (.none) (.none) (none) (.none) (.none) 0) }
noncomputable def o181_18 : Obj := { cls := .type "code", data := .fields #[.str "matching" 402, .str "matching" 403, .str "/claim/cut.py" 404, .int 83 0, .int 2 0, .int 0 0, .int 0 0, .int 3 0, .ref 176, .bool true, .int 181 0, .ref 177, .none, .ref 178, .ref 179, .ref 180, .int 407 0, .int 83 0, .str "/claim/cut.py" 408] }
noncomputable def o182_18 : Obj := { cls := .type "function", data := .func (fD (stmtAt 15) "matching" "matching" 3 (.none) (.none) (.none) (.str "clausemill.indexer" 379) (none) (.ref 181) (.none) 0) }
noncomputable def o183_18 : Obj := oT []
noncomputable def o184_18 : Obj := { cls := .none, data := .fields #[] }
noncomputable def o185_18 : Obj := oT [.str "codes" 413, .str "cell_key" 414, .str "places" 415, .str "place" 416]
noncomputable def o186_18 : Obj := oT []
noncomputable def o187_18 : Obj := { cls := .none, data := .func (fD (stmtAt 16) "candidates" "candidates" 0 (.none) (.none) (.none) (.none) (none) (.none) (.none) 0) }
noncomputable def o188_18 : Obj := { cls := .type "code", data := .fields #[.str "candidates" 410, .str "candidates" 411, .str "/claim/cut.py" 412, .int 87 0, .int 2 0, .int 0 0, .int 0 0, .int 3 0, .ref 183, .bool true, .int 181 0, .ref 184, .none, .ref 185, .ref 186, .ref 187, .int 417 0, .int 87 0, .str "/claim/cut.py" 418] }
noncomputable def o189_18 : Obj := { cls := .type "function", data := .func (fD (stmtAt 16) "candidates" "candidates" 3 (.none) (.none) (.none) (.str "clausemill.indexer" 379) (none) (.ref 188) (.none) 0) }
noncomputable def o190_18 : Obj := oT []
noncomputable def o191_18 : Obj := { cls := .none, data := .fields #[] }
noncomputable def o192_18 : Obj := oT [.str "codes" 423, .str "code" 424]
noncomputable def o193_18 : Obj := oT []
noncomputable def o194_18 : Obj := { cls := .none, data := .func (fD (stmtAt 17) "all_variable" "all_variable" 0 (.none) (.none) (.none) (.none) (none) (.none) (.none) 0) }
noncomputable def o195_18 : Obj := { cls := .type "code", data := .fields #[.str "all_variable" 420, .str "all_variable" 421, .str "/claim/cut.py" 422, .int 93 0, .int 1 0, .int 0 0, .int 0 0, .int 3 0, .ref 190, .bool true, .int 181 0, .ref 191, .none, .ref 192, .ref 193, .ref 194, .int 425 0, .int 93 0, .str "/claim/cut.py" 426] }
noncomputable def o196_18 : Obj := { cls := .type "function", data := .func (fD (stmtAt 17) "all_variable" "all_variable" 3 (.none) (.none) (.none) (.str "clausemill.indexer" 379) (none) (.ref 195) (.none) 0) }
noncomputable def tr18 (P : Params) : BT := (.node (boot_o_0 P) (.node (boot_o_1 P) (.node (o3_18 P) (.node (boot_o_7 P) (.node o15_6 (.node o31_6 (.node o63_6 (lf o127_18) (lf o191_18)) (.node o95_18 (lf o159_18) .nil)) (.node o47_6 (.node o79_18 (lf o143_18) .nil) (.node o111_18 (lf o175_18) .nil))) (.node o23_6 (.node o39_6 (.node (o71_18 P) (lf o135_18) .nil) (.node o103_18 (lf o167_18) .nil)) (.node o55_6 (.node o87_18 (lf o151_18) .nil) (.node o119_18 (lf o183_18) .nil)))) (.node o11_0 (.node o19_6 (.node o35_6 (.node o67_6 (lf o131_18) (lf o195_18)) (.node o99_18 (lf o163_18) .nil)) (.node (o51_6 P) (.node o83_18 (lf o147_18) .nil) (.node o115_18 (lf o179_18) .nil))) (.node o27_6 (.node o43_6 (.node o75_18 (lf o139_18) .nil) (.node o107_18 (lf o171_18) .nil)) (.node o59_6 (.node o91_18 (lf o155_18) .nil) (.node o123_18 (lf o187_18) .nil))))) (.node (boot_o_5 P) (.node (boot_o_9 P) (.node o17_6 (.node o33_6 (.node o65_6 (lf o129_18) (lf o193_18)) (.node o97_18 (lf o161_18) .nil)) (.node o49_6 (.node o81_18 (lf o145_18) .nil) (.node o113_18 (lf o177_18) .nil))) (.node o25_6 (.node o41_6 (.node o73_18 (lf o137_18) .nil) (.node o105_18 (lf o169_18) .nil)) (.node o57_6 (.node o89_18 (lf o153_18) .nil) (.node o121_18 (lf o185_18) .nil)))) (.node o13_0 (.node o21_6 (.node (o37_6 P) (.node o69_18 (lf o133_18) .nil) (.node o101_18 (lf o165_18) .nil)) (.node o53_6 (.node o85_18 (lf o149_18) .nil) (.node o117_18 (lf o181_18) .nil))) (.node o29_6 (.node o45_6 (.node o77_18 (lf o141_18) .nil) (.node o109_18 (lf o173_18) .nil)) (.node o61_6 (.node o93_18 (lf o157_18) .nil) (.node o125_18 (lf o189_18) .nil)))))) (.node (o2_6 P) (.node (boot_o_4 P) (.node (boot_o_8 P) (.node o16_6 (.node o32_6 (.node o64_6 (lf o128_18) (lf o192_18)) (.node o96_18 (lf o160_18) .nil)) (.node o48_6 (.node o80_18 (lf o144_18) .nil) (.node o112_18 (lf o176_18) .nil))) (.node (o24_6 P) (.node o40_6 (.node o72_18 (lf o136_18) .nil) (.node o104_18 (lf o168_18) .nil)) (.node o56_6 (.node o88_18 (lf o152_18) .nil) (.node o120_18 (lf o184_18) .nil)))) (.node o12_18 (.node o20_6 (.node o36_6 (.node o68_6 (lf o132_18) (lf o196_18)) (.node o100_18 (lf o164_18) .nil)) (.node o52_6 (.node o84_18 (lf o148_18) .nil) (.node o116_18 (lf o180_18) .nil))) (.node o28_6 (.node o44_6 (.node o76_18 (lf o140_18) .nil) (.node o108_18 (lf o172_18) .nil)) (.node o60_6 (.node o92_18 (lf o156_18) .nil) (.node o124_18 (lf o188_18) .nil))))) (.node (boot_o_6 P) (.node (boot_o_10 P) (.node o18_6 (.node o34_6 (.node o66_6 (lf o130_18) (lf o194_18)) (.node o98_18 (lf o162_18) .nil)) (.node o50_6 (.node o82_18 (lf o146_18) .nil) (.node o114_18 (lf o178_18) .nil))) (.node o26_6 (.node o42_6 (.node o74_18 (lf o138_18) .nil) (.node o106_18 (lf o170_18) .nil)) (.node o58_6 (.node o90_18 (lf (o154_18 P)) .nil) (.node o122_18 (lf o186_18) .nil)))) (.node o14_0 (.node o22_6 (.node o38_6 (.node o70_18 (lf o134_18) .nil) (.node o102_18 (lf o166_18) .nil)) (.node o54_6 (.node o86_18 (lf o150_18) .nil) (.node o118_18 (lf o182_18) .nil))) (.node (o30_6 P) (.node o46_6 (.node o78_18 (lf o142_18) .nil) (.node o110_18 (lf o174_18) .nil)) (.node o62_6 (.node o94_18 (lf o158_18) .nil) (.node o126_18 (lf o190_18) .nil)))))))
noncomputable def o3_19 (P : Params) : Obj := { cls := .type "dict", data := .dict #[kE P "__name__" 165 (.str "clausemill.indexer" 379), kE P "__doc__" 166 (.none), kE P "__package__" 167 (.none), kE P "__loader__" 168 (.builtin "__main__.__loader__#opaque"), kE P "__spec__" 169 (.none), kE P "__annotations__" 170 (.ref 6), kE P "__builtins__" 171 (.ref 4), kE P "__file__" 173 (.str "/claim/cut.py" 172), kE P "__cached__" 174 (.none), kE P "_wall" 193 (.ref 21), kE P "ClausemillError" 215 (.ref 31), kE P "LinkFault" 241 (.ref 52), kE P "fixed_atoms" 247 (.ref 61), kE P "fixed_functors" 253 (.ref 68), kE P "Symbols" 374 (.ref 155), kE P "CON" 376 (.int 4 375), kE P "INT" 378 (.int 5 377), kE P "VAR_KEY" 382 (.ref 160), kE P "LIST_KEY" 384 (.ref 161), kE P "FAIL_LABEL" 387 (.int (-1) 386), kE P "const_key" 394 (.ref 168), kE P "struct_key" 401 (.ref 175), kE P "matching" 409 (.ref 182), kE P "candidates" 419 (.ref 189), kE P "all_variable" 427 (.ref 196), kE P "BlockBuilder" 549 (.ref 269)] 26 }
noncomputable def o12_19 : Obj := { cls := .none, data := .fields #[.int 1 0, .int 0 0, .ref 20, .int 5 0, .int 0 0, .ref 27, .int 7 0, .int 0 0, .ref 40, .int 11 0, .int 0 0, .ref 60, .int 13 0, .int 0 0, .ref 67, .int 15 0, .int 0 0, .ref 74, .int 79 0, .int 0 0, .ref 167, .int 81 0, .int 0 0, .ref 174, .int 83 0, .int 0 0, .ref 181, .int 87 0, .int 0 0, .ref 188, .int 93 0, .int 0 0, .ref 195, .int 98 0, .int 0 0, .ref 202] }
noncomputable def o197_19 : Obj := oT []
noncomputable def o198_19 : Obj := { cls := .type "builtin_function_or_method", data := .fields #[.builtin "type.__prepare__", .type "type"] }
noncomputable def o199_19 (P : Params) : Obj := { cls := .type "dict", data := .dict #[kE P "__module__" 435 (.str "clausemill.indexer" 379), kE P "__qualname__" 437 (.str "BlockBuilder" 436), kE P "__firstlineno__" 439 (.int 98 438), kE P "__init__" 448 (.ref 210), kE P "fresh_label" 456 (.ref 217), kE P "chain_rows" 467 (.ref 224), kE P "chain" 477 (.ref 231), kE P "matching_places" 488 (.ref 238), kE P "variable_places" 498 (.ref 245), kE P "table" 511 (.ref 252), kE P "switch" 525 (.ref 259), kE P "finish" 535 (.ref 266), kE P "__static_attributes__" 542 (.ref 267)] 13 }
noncomputable def o200_19 : Obj := oT []
noncomputable def o201_19 : Obj := { cls := .none, data := .fields #[.int 100 0, .int 4 0, .ref 209, .int 108 0, .int 4 0, .ref 216, .int 113 0, .int 4 0, .ref 223, .int 121 0, .int 4 0, .ref 230, .int 134 0, .int 4 0, .ref 237, .int 141 0, .int 4 0, .ref 244, .int 148 0, .int 4 0, .ref 251, .int 158 0, .int 4 0, .ref 258, .int 177 0, .int 4 0, .ref 265] }
noncomputable def o202_19 : Obj := { cls := .type "code", data := .fields #[.str "BlockBuilder" 430, .str "BlockBuilder" 431, .str "/claim/cut.py" 432, .int 98 0, .int 0 0, .int 0 0, .int 0 0, .int 0 0, .ref 200, .bool false, .int 181 0, .ref 201, .none, .none, .none, .none, .int 433 0, .int 98 0, .str "/claim/cut.py" 434] }
noncomputable def o203_19 : Obj := { cls := .type "frame", slots := #[some (.ref 202), some (.ref 3), some (.ref 199), none, some (.str "clausemill.indexer" 379), none, some (.ref 0)] }
noncomputable def o204_19 : Obj := oT []
noncomputable def o205_19 : Obj := { cls := .none, data := .fields #[] }
noncomputable def o206_19 : Obj := oT [.str "self" 443, .str "arity" 444, .str "codes" 445]
noncomputable def o207_19 : Obj := oT []
noncomputable def o208_19 : Obj := { cls := .none, data := .func (fD (methAt 18 0) "__init__" "BlockBuilder.__init__" 0 (.none) (.none) (.none) (.none) (none) (.none) (.none) 0) }
noncomputable def o209_19 : Obj := { cls := .type "code", data := .fields #[.str "__init__" 440, .str "BlockBuilder.__init__" 441, .str "/claim/cut.py" 442, .int 100 0, .int 3 0, .int 0 0, .int 0 0, .int 3 0, .ref 204, .bool true, .int 181 0, .ref 205, .none, .ref 206, .ref 207, .ref 208, .int 446 0, .int 100 0, .str "/claim/cut.py" 447] }
noncomputable def o210_19 : Obj := { cls := .type "function", data := .func (fD (methAt 18 0) "__init__" "BlockBuilder.__init__" 3 (.none) (.none) (.none) (.str "clausemill.indexer" 379) (none) (.ref 209) (.none) 0) }
noncomputable def o211_19 : Obj := oT []
noncomputable def o212_19 : Obj := { cls := .none, data := .fields #[] }
noncomputable def o213_19 : Obj := oT [.str "self" 452, .str "label" 453]
noncomputable def o214_19 : Obj := oT []
noncomputable def o215_19 : Obj := { cls := .none, data := .func (fD (methAt 18 1) "fresh_label" "BlockBuilder.fresh_label" 0 (.none) (.none) (.none) (.none) (none) (.none) (.none) 0) }
noncomputable def o216_19 : Obj := { cls := .type "code", data := .fields #[.str "fresh_label" 449, .str "BlockBuilder.fresh_label" 450, .str "/claim/cut.py" 451, .int 108 0, .int 1 0, .int 0 0, .int 0 0, .int 3 0, .ref 211, .bool true, .int 181 0, .ref 212, .none, .ref 213, .ref 214, .ref 215, .int 454 0, .int 108 0, .str "/claim/cut.py" 455] }
noncomputable def o217_19 : Obj := { cls := .type "function", data := .func (fD (methAt 18 1) "fresh_label" "BlockBuilder.fresh_label" 3 (.none) (.none) (.none) (.str "clausemill.indexer" 379) (none) (.ref 216) (.none) 0) }
noncomputable def o218_19 : Obj := oT []
noncomputable def o219_19 : Obj := { cls := .none, data := .fields #[] }
noncomputable def o220_19 : Obj := oT [.str "self" 460, .str "labels" 461, .str "rows" 462, .str "last" 463, .str "place" 464]
noncomputable def o221_19 : Obj := oT []
noncomputable def o222_19 : Obj := { cls := .none, data := .func (fD (methAt 18 2) "chain_rows" "BlockBuilder.chain_rows" 0 (.none) (.none) (.none) (.none) (none) (.none) (.none) 0) }
noncomputable def o223_19 : Obj := { cls := .type "code", data := .fields #[.str "chain_rows" 457, .str "BlockBuilder.chain_rows" 458, .str "/claim/cut.py" 459, .int 113 0, .int 2 0, .int 0 0, .int 0 0, .int 3 0, .ref 218, .bool true, .int 181 0, .ref 219, .none, .ref 220, .ref 221, .ref 222, .int 465 0, .int 113 0, .str "/claim/cut.py" 466] }
noncomputable def o224_19 : Obj := { cls := .type "function", data := .func (fD (methAt 18 2) "chain_rows" "BlockBuilder.chain_rows" 3 (.none) (.none) (.none) (.str "clausemill.indexer" 379) (none) (.ref 223) (.none) 0) }
noncomputable def o225_19 : Obj := oT []
noncomputable def o226_19 : Obj := { cls := .none, data := .fields #[] }
noncomputable def o227_19 : Obj := oT [.str "self" 471, .str "places" 472, .str "wanted" 473, .str "label" 474]
noncomputable def o228_19 : Obj := oT []
noncomputable def o229_19 : Obj := { cls := .none, data := .func (fD (methAt 18 3) "chain" "BlockBuilder.chain" 0 (.none) (.none) (.none) (.none) (none) (.none) (.none) 0) }
noncomputable def o230_19 : Obj := { cls := .type "code", data := .fields #[.str "chain" 468, .str "BlockBuilder.chain" 469, .str "/claim/cut.py" 470, .int 121 0, .int 2 0, .int 0 0, .int 0 0, .int 3 0, .ref 225, .bool true, .int 181 0, .ref 226, .none, .ref 227, .ref 228, .ref 229, .int 475 0, .int 121 0, .str "/claim/cut.py" 476] }
noncomputable def o231_19 : Obj := { cls := .type "function", data := .func (fD (methAt 18 3) "chain" "BlockBuilder.chain" 3 (.none) (.none) (.none) (.str "clausemill.indexer" 379) (none) (.ref 230) (.none) 0) }
noncomputable def o232_19 : Obj := oT []
noncomputable def o233_19 : Obj := { cls := .none, data := .fields #[] }
noncomputable def o234_19 : Obj := oT [.str "self" 481, .str "places" 482, .str "cell_key" 483, .str "found" 484, .str "place" 485]
noncomputable def o235_19 : Obj := oT []
noncomputable def o236_19 : Obj := { cls := .none, data := .func (fD (methAt 18 4) "matching_places" "BlockBuilder.matching_places" 0 (.none) (.none) (.none) (.none) (none) (.none) (.none) 0) }
noncomputable def o237_19 : Obj := { cls := .type "code", data := .fields #[.str "matching_places" 478, .str "BlockBuilder.matching_places" 479, .str "/claim/cut.py" 480, .int 134 0, .int 3 0, .int 0 0, .int 0 0, .int 3 0, .ref 232, .bool true, .int 181 0, .ref 233, .none, .ref 234, .ref 235, .ref 236, .int 486 0, .int 134 0, .str "/claim/cut.py" 487] }
noncomputable def o238_19 : Obj := { cls := .type "function", data := .func (fD (methAt 18 4) "matching_places" "BlockBuilder.matching_places" 3 (.none) (.none) (.none) (.str "clausemill.indexer" 379) (none) (.ref 237) (.none) 0) }
noncomputable def o239_19 : Obj := oT []
noncomputable def o240_19 : Obj := { cls := .none, data := .fields #[] }
noncomputable def o241_19 : Obj := oT [.str "self" 492, .str "places" 493, .str "found" 494, .str "place" 495]
noncomputable def o242_19 : Obj := oT []
noncomputable def o243_19 : Obj := { cls := .none, data := .func (fD (methAt 18 5) "variable_places" "BlockBuilder.variable_places" 0 (.none) (.none) (.none) (.none) (none) (.none) (.none) 0) }
noncomputable def o244_19 : Obj := { cls := .type "code", data := .fields #[.str "variable_places" 489, .str "BlockBuilder.variable_places" 490, .str "/claim/cut.py" 491, .int 141 0, .int 2 0, .int 0 0, .int 0 0, .int 3 0, .ref 239, .bool true, .int 181 0, .ref 240, .none, .ref 241, .ref 242, .ref 243, .int 496 0, .int 141 0, .str "/claim/cut.py" 497] }
noncomputable def o245_19 : Obj := { cls := .type "function", data := .func (fD (methAt 18 5) "variable_places" "BlockBuilder.variable_places" 3 (.none) (.none) (.none) (.str "clausemill.indexer" 379) (none) (.ref 244) (.none) 0) }
noncomputable def o246_19 : Obj := oT []
noncomputable def o247_19 : Obj := { cls := .none, data := .fields #[] }
noncomputable def o248_19 : Obj := oT [.str "self" 502, .str "places" 503, .str "kind" 504, .str "pairs" 505, .str "seen" 506, .str "place" 507, .str "key" 508]
noncomputable def o249_19 : Obj := oT []
noncomputable def o250_19 : Obj := { cls := .none, data := .func (fD (methAt 18 6) "table" "BlockBuilder.table" 0 (.none) (.none) (.none) (.none) (none) (.none) (.none) 0) }
noncomputable def o251_19 : Obj := { cls := .type "code", data := .fields #[.str "table" 499, .str "BlockBuilder.table" 500, .str "/claim/cut.py" 501, .int 148 0, .int 3 0, .int 0 0, .int 0 0, .int 3 0, .ref 246, .bool true, .int 181 0, .ref 247, .none, .ref 248, .ref 249, .ref 250, .int 509 0, .int 148 0, .str "/claim/cut.py" 510] }
noncomputable def o252_19 : Obj := { cls := .type "function", data := .func (fD (methAt 18 6) "table" "BlockBuilder.table" 3 (.none) (.none) (.none) (.str "clausemill.indexer" 379) (none) (.ref 251) (.none) 0) }
noncomputable def o253_19 : Obj := oT []
noncomputable def o254_19 : Obj := { cls := .none, data := .fields #[] }
noncomputable def o255_19 : Obj := oT [.str "self" 515, .str "places" 516, .str "default" 517, .str "constants" 518, .str "structures" 519, .str "const_label" 520, .str "struct_label" 521, .str "list_label" 522]
noncomputable def o256_19 : Obj := oT []
noncomputable def o257_19 : Obj := { cls := .none, data := .func (fD (methAt 18 7) "switch" "BlockBuilder.switch" 0 (.none) (.none) (.none) (.none) (none) (.none) (.none) 0) }
noncomputable def o258_19 : Obj := { cls := .type "code", data := .fields #[.str "switch" 512, .str "BlockBuilder.switch" 513, .str "/claim/cut.py" 514, .int 158 0, .int 2 0, .int 0 0, .int 0 0, .int 3 0, .ref 253, .bool true, .int 181 0, .ref 254, .none, .ref 255, .ref 256, .ref 257, .int 523 0, .int 158 0, .str "/claim/cut.py" 524] }
noncomputable def o259_19 : Obj := { cls := .type "function", data := .func (fD (methAt 18 7) "switch" "BlockBuilder.switch" 3 (.none) (.none) (.none) (.str "clausemill.indexer" 379) (none) (.ref 258) (.none) 0) }
noncomputable def o260_19 : Obj := oT []
noncomputable def o261_19 : Obj := { cls := .none, data := .fields #[] }
noncomputable def o262_19 : Obj := oT [.str "self" 529, .str "pair" 530, .str "row" 531, .str "place" 532]
noncomputable def o263_19 : Obj := oT []
noncomputable def o264_19 : Obj := { cls := .none, data := .func (fD (methAt 18 8) "finish" "BlockBuilder.finish" 0 (.none) (.none) (.none) (.none) (none) (.none) (.none) 0) }
noncomputable def o265_19 : Obj := { cls := .type "code", data := .fields #[.str "finish" 526, .str "BlockBuilder.finish" 527, .str "/claim/cut.py" 528, .int 177 0, .int 1 0, .int 0 0, .int 0 0, .int 3 0, .ref 260, .bool true, .int 181 0, .ref 261, .none, .ref 262, .ref 263, .ref 264, .int 533 0, .int 177 0, .str "/claim/cut.py" 534] }
noncomputable def o266_19 : Obj := { cls := .type "function", data := .func (fD (methAt 18 8) "finish" "BlockBuilder.finish" 3 (.none) (.none) (.none) (.str "clausemill.indexer" 379) (none) (.ref 265) (.none) 0) }
noncomputable def o267_19 : Obj := oT [.str "arity" 536, .str "chains" 537, .str "codes" 538, .str "known" 539, .str "next_label" 540, .str "rows" 541]
noncomputable def o268_19 (P : Params) : Obj := { cls := .type "dict", data := .dict #[kE P "__module__" 435 (.str "clausemill.indexer" 379), kE P "__firstlineno__" 439 (.int 98 438), kE P "__init__" 448 (.ref 210), kE P "fresh_label" 456 (.ref 217), kE P "chain_rows" 467 (.ref 224), kE P "chain" 477 (.ref 231), kE P "matching_places" 488 (.ref 238), kE P "variable_places" 498 (.ref 245), kE P "table" 511 (.ref 252), kE P "switch" 525 (.ref 259), kE P "finish" 535 (.ref 266), kE P "__static_attributes__" 542 (.ref 267), kE P "__dict__" 544 (.ref 270), kE P "__weakref__" 546 (.ref 271), kE P "__doc__" 547 (.none)] 4 }
noncomputable def o269_19 : Obj := { cls := .type "type", data := .cls { name := "BlockBuilder", bases := [.type "object"], mro := [.ref 269, .type "object"], ns := 268, qualname := "BlockBuilder" }, slots := #[none, none, some (.str "BlockBuilder" 428), some (.str "BlockBuilder" 436), some (.builtin "object.__new__"), some (.bool true)] }
noncomputable def o270_19 : Obj := { cls := .type "getset_descriptor", data := .fields #[.str "__dict__" 543, .ref 269, .builtin "function.__dict__", .builtin "function.__dict__#set"] }
noncomputable def o271_19 : Obj := { cls := .type "getset_descriptor", data := .fields #[.str "__weakref__" 545, .ref 269, .builtin "ExceptionGroup.__weakref__", .none] }
noncomputable def o272_19 : Obj := { cls := .type "super", data := .fields #[.ref 269, .ref 269, .ref 269] }
noncomputable def o273_19 : Obj := { cls := .type "builtin_function_or_method", data := .fields #[.builtin "object.__init_subclass__", .ref 269] }
noncomputable def tr19 (P : Params) : BT := (.node (boot_o_0 P) (.node (boot_o_1 P) (.node (o3_19 P) (.node (boot_o_7 P) (.node o15_6 (.node o31_6 (.node o63_6 (.node o127_18 (lf o255_19) .nil) (lf o191_18)) (.node o95_18 (lf o159_18) (lf o223_19))) (.node o47_6 (.node o79_18 (.node o143_18 (lf o271_19) .nil) (lf o207_19)) (.node o111_18 (lf o175_18) (lf o239_19)))) (.node o23_6 (.node o39_6 (.node (o71_18 P) (.node o135_18 (lf o263_19) .nil) (lf (o199_19 P))) (.node o103_18 (lf o167_18) (lf o231_19))) (.node o55_6 (.node o87_18 (lf o151_18) (lf o215_19)) (.node o119_18 (lf o183_18) (lf o247_19))))) (.node o11_0 (.node o19_6 (.node o35_6 (.node o67_6 (.node o131_18 (lf o259_19) .nil) (lf o195_18)) (.node o99_18 (lf o163_18) (lf o227_19))) (.node (o51_6 P) (.node o83_18 (lf o147_18) (lf o211_19)) (.node o115_18 (lf o179_18) (lf o243_19)))) (.node o27_6 (.node o43_6 (.node o75_18 (.node o139_18 (lf o267_19) .nil) (lf o203_19)) (.node o107_18 (lf o171_18) (lf o235_19))) (.node o59_6 (.node o91_18 (lf o155_18) (lf o219_19)) (.node o123_18 (lf o187_18) (lf o251_19)))))) (.node (boot_o_5 P) (.node (boot_o_9 P) (.node o17_6 (.node o33_6 (.node o65_6 (.node o129_18 (lf o257_19) .nil) (lf o193_18)) (.node o97_18 (lf o161_18) (lf o225_19))) (.node o49_6 (.node o81_18 (.node o145_18 (lf o273_19) .nil) (lf o209_19)) (.node o113_18 (lf o177_18) (lf o241_19)))) (.node o25_6 (.node o41_6 (.node o73_18 (.node o137_18 (lf o265_19) .nil) (lf o201_19)) (.node o105_18 (lf o169_18) (lf o233_19))) (.node o57_6 (.node o89_18 (lf o153_18) (lf o217_19)) (.node o121_18 (lf o185_18) (lf o249_19))))) (.node o13_0 (.node o21_6 (.node (o37_6 P) (.node o69_18 (.node o133_18 (lf o261_19) .nil) (lf o197_19)) (.node o101_18 (lf o165_18) (lf o229_19))) (.node o53_6 (.node o85_18 (lf o149_18) (lf o213_19)) (.node o117_18 (lf o181_18) (lf o245_19)))) (.node o29_6 (.node o45_6 (.node o77_18 (.node o141_18 (lf o269_19) .nil) (lf o205_19)) (.node o109_18 (lf o173_18) (lf o237_19))) (.node o61_6 (.node o93_18 (lf o157_18) (lf o221_19)) (.node o125_18 (lf o189_18) (lf o253_19))))))) (.node (o2_6 P) (.node (boot_o_4 P) (.node (boot_o_8 P) (.node o16_6 (.node o32_6 (.node o64_6 (.node o128_18 (lf o256_19) .nil) (lf o192_18)) (.node o96_18 (lf o160_18) (lf o224_19))) (.node o48_6 (.node o80_18 (.node o144_18 (lf o272_19) .nil) (lf o208_19)) (.node o112_18 (lf o176_18) (lf o240_19)))) (.node (o24_6 P) (.node o40_6 (.node o72_18 (.node o136_18 (lf o264_19) .nil) (lf o200_19)) (.node o104_18 (lf o168_18) (lf o232_19))) (.node o56_6 (.node o88_18 (lf o152_18) (lf o216_19)) (.node o120_18 (lf o184_18) (lf o248_19))))) (.node o12_19 (.node o20_6 (.node o36_6 (.node o68_6 (.node o132_18 (lf o260_19) .nil) (lf o196_18)) (.node o100_18 (lf o164_18) (lf o228_19))) (.node o52_6 (.node o84_18 (lf o148_18) (lf o212_19)) (.node o116_18 (lf o180_18) (lf o244_19)))) (.node o28_6 (.node o44_6 (.node o76_18 (.node o140_18 (lf (o268_19 P)) .nil) (lf o204_19)) (.node o108_18 (lf o172_18) (lf o236_19))) (.node o60_6 (.node o92_18 (lf o156_18) (lf o220_19)) (.node o124_18 (lf o188_18) (lf o252_19)))))) (.node (boot_o_6 P) (.node (boot_o_10 P) (.node o18_6 (.node o34_6 (.node o66_6 (.node o130_18 (lf o258_19) .nil) (lf o194_18)) (.node o98_18 (lf o162_18) (lf o226_19))) (.node o50_6 (.node o82_18 (lf o146_18) (lf o210_19)) (.node o114_18 (lf o178_18) (lf o242_19)))) (.node o26_6 (.node o42_6 (.node o74_18 (.node o138_18 (lf o266_19) .nil) (lf o202_19)) (.node o106_18 (lf o170_18) (lf o234_19))) (.node o58_6 (.node o90_18 (lf (o154_18 P)) (lf o218_19)) (.node o122_18 (lf o186_18) (lf o250_19))))) (.node o14_0 (.node o22_6 (.node o38_6 (.node o70_18 (.node o134_18 (lf o262_19) .nil) (lf o198_19)) (.node o102_18 (lf o166_18) (lf o230_19))) (.node o54_6 (.node o86_18 (lf o150_18) (lf o214_19)) (.node o118_18 (lf o182_18) (lf o246_19)))) (.node (o30_6 P) (.node o46_6 (.node o78_18 (.node o142_18 (lf o270_19) .nil) (lf o206_19)) (.node o110_18 (lf o174_18) (lf o238_19))) (.node o62_6 (.node o94_18 (lf o158_18) (lf o222_19)) (.node o126_18 (lf o190_18) (lf o254_19))))))))
noncomputable def o3_38 (P : Params) : Obj := { cls := .type "dict", data := .dict #[kE P "__name__" 165 (.str "law_rh0083_01" 701), kE P "__doc__" 166 (.none), kE P "__package__" 167 (.none), kE P "__loader__" 168 (.builtin "__main__.__loader__#opaque"), kE P "__spec__" 169 (.none), kE P "__annotations__" 170 (.ref 6), kE P "__builtins__" 171 (.ref 4), kE P "__file__" 173 (.str "/claim/cut.py" 172), kE P "__cached__" 174 (.none), kE P "_wall" 193 (.ref 21), kE P "ClausemillError" 215 (.ref 31), kE P "LinkFault" 241 (.ref 52), kE P "fixed_atoms" 247 (.ref 61), kE P "fixed_functors" 253 (.ref 68), kE P "Symbols" 374 (.ref 155), kE P "CON" 376 (.int 4 375), kE P "INT" 378 (.int 5 377), kE P "VAR_KEY" 382 (.ref 160), kE P "LIST_KEY" 384 (.ref 161), kE P "FAIL_LABEL" 387 (.int (-1) 386), kE P "const_key" 394 (.ref 168), kE P "struct_key" 401 (.ref 175), kE P "matching" 409 (.ref 182), kE P "candidates" 419 (.ref 189), kE P "all_variable" 427 (.ref 196), kE P "BlockBuilder" 549 (.ref 269), kE P "small_block" 556 (.ref 280), kE P "chain_block" 567 (.ref 287), kE P "index_block" 577 (.ref 294), kE P "clause_groups" 587 (.ref 301), kE P "group_block" 602 (.ref 308), kE P "label_places" 611 (.ref 315), kE P "switch_target" 620 (.ref 322), kE P "table_target" 629 (.ref 329), kE P "tried_clauses" 645 (.ref 336), kE P "sample_keys" 657 (.ref 343), kE P "check_index" 663 (.ref 348), kE P "ClauseCode" 700 (.ref 365), kE P "_law_figures" 713 (.ref 376), kE P "_law_draw" 721 (.ref 383), kE P "_law_any_key" 730 (.ref 390), kE P "_law_spoiled" 745 (.ref 397), kE P "law" 751 (.ref 402)] 43 }
noncomputable def o12_38 : Obj := { cls := .none, data := .fields #[.int 1 0, .int 0 0, .ref 20, .int 5 0, .int 0 0, .ref 27, .int 7 0, .int 0 0, .ref 40, .int 11 0, .int 0 0, .ref 60, .int 13 0, .int 0 0, .ref 67, .int 15 0, .int 0 0, .ref 74, .int 79 0, .int 0 0, .ref 167, .int 81 0, .int 0 0, .ref 174, .int 83 0, .int 0 0, .ref 181, .int 87 0, .int 0 0, .ref 188, .int 93 0, .int 0 0, .ref 195, .int 98 0, .int 0 0, .ref 202, .int 187 0, .int 0 0, .ref 279, .int 191 0, .int 0 0, .ref 286, .int 198 0, .int 0 0, .ref 293, .int 206 0, .int 0 0, .ref 300, .int 220 0, .int 0 0, .ref 307, .int 243 0, .int 0 0, .ref 314, .int 249 0, .int 0 0, .ref 321, .int 258 0, .int 0 0, .ref 328, .int 263 0, .int 0 0, .ref 335, .int 295 0, .int 0 0, .ref 342, .int 310 0, .int 0 0, .ref 347, .int 319 0, .int 0 0, .ref 354, .int 327 0, .int 0 0, .ref 375, .int 339 0, .int 0 0, .ref 382, .int 343 0, .int 0 0, .ref 389, .int 355 0, .int 0 0, .ref 396, .int 378 0, .int 0 0, .ref 401] }
noncomputable def o274_38 : Obj := oT []
noncomputable def o275_38 : Obj := { cls := .none, data := .fields #[] }
noncomputable def o276_38 : Obj := oT [.str "codes" 553]
noncomputable def o277_38 : Obj := oT []
noncomputable def o278_38 : Obj := { cls := .none, data := .func (fD (stmtAt 19) "small_block" "small_block" 0 (.none) (.none) (.none) (.none) (none) (.none) (.none) 0) }
noncomputable def o279_38 : Obj := { cls := .type "code", data := .fields #[.str "small_block" 550, .str "small_block" 551, .str "/claim/cut.py" 552, .int 187 0, .int 1 0, .int 0 0, .int 0 0, .int 3 0, .ref 274, .bool true, .int 181 0, .ref 275, .none, .ref 276, .ref 277, .ref 278, .int 554 0, .int 187 0, .str "/claim/cut.py" 555] }
noncomputable def o280_38 : Obj := { cls := .type "function", data := .func (fD (stmtAt 19) "small_block" "small_block" 3 (.none) (.none) (.none) (.str "clausemill.indexer" 379) (none) (.ref 279) (.none) 0) }
noncomputable def o281_38 : Obj := oT []
noncomputable def o282_38 : Obj := { cls := .none, data := .fields #[] }
noncomputable def o283_38 : Obj := oT [.str "symbols" 560, .str "functor" 561, .str "codes" 562, .str "builder" 563, .str "row" 564]
noncomputable def o284_38 : Obj := oT []
noncomputable def o285_38 : Obj := { cls := .none, data := .func (fD (stmtAt 20) "chain_block" "chain_block" 0 (.none) (.none) (.none) (.none) (none) (.none) (.none) 0) }
noncomputable def o286_38 : Obj := { cls := .type "code", data := .fields #[.str "chain_block" 557, .str "chain_block" 558, .str "/claim/cut.py" 559, .int 191 0, .int 3 0, .int 0 0, .int 0 0, .int 3 0, .ref 281, .bool true, .int 181 0, .ref 282, .none, .ref 283, .ref 284, .ref 285, .int 565 0, .int 191 0, .str "/claim/cut.py" 566] }
noncomputable def o287_38 : Obj := { cls := .type "function", data := .func (fD (stmtAt 20) "chain_block" "chain_block" 3 (.none) (.none) (.none) (.str "clausemill.indexer" 379) (none) (.ref 286) (.none) 0) }
noncomputable def o288_38 : Obj := oT []
noncomputable def o289_38 : Obj := { cls := .none, data := .fields #[] }
noncomputable def o290_38 : Obj := oT [.str "symbols" 571, .str "functor" 572, .str "codes" 573, .str "builder" 574]
noncomputable def o291_38 : Obj := oT []
noncomputable def o292_38 : Obj := { cls := .none, data := .func (fD (stmtAt 21) "index_block" "index_block" 0 (.none) (.none) (.none) (.none) (none) (.none) (.none) 0) }
noncomputable def o293_38 : Obj := { cls := .type "code", data := .fields #[.str "index_block" 568, .str "index_block" 569, .str "/claim/cut.py" 570, .int 198 0, .int 3 0, .int 0 0, .int 0 0, .int 3 0, .ref 288, .bool true, .int 181 0, .ref 289, .none, .ref 290, .ref 291, .ref 292, .int 575 0, .int 198 0, .str "/claim/cut.py" 576] }
noncomputable def o294_38 : Obj := { cls := .type "function", data := .func (fD (stmtAt 21) "index_block" "index_block" 3 (.none) (.none) (.none) (.str "clausemill.indexer" 379) (none) (.ref 293) (.none) 0) }
noncomputable def o295_38 : Obj := oT []
noncomputable def o296_38 : Obj := { cls := .none, data := .fields #[] }
noncomputable def o297_38 : Obj := oT [.str "codes" 581, .str "groups" 582, .str "run" 583, .str "place" 584]
noncomputable def o298_38 : Obj := oT []
noncomputable def o299_38 : Obj := { cls := .none, data := .func (fD (stmtAt 22) "clause_groups" "clause_groups" 0 (.none) (.none) (.none) (.none) (none) (.none) (.none) 0) }
noncomputable def o300_38 : Obj := { cls := .type "code", data := .fields #[.str "clause_groups" 578, .str "clause_groups" 579, .str "/claim/cut.py" 580, .int 206 0, .int 1 0, .int 0 0, .int 0 0, .int 3 0, .ref 295, .bool true, .int 181 0, .ref 296, .none, .ref 297, .ref 298, .ref 299, .int 585 0, .int 206 0, .str "/claim/cut.py" 586] }
noncomputable def o301_38 : Obj := { cls := .type "function", data := .func (fD (stmtAt 22) "clause_groups" "clause_groups" 3 (.none) (.none) (.none) (.str "clausemill.indexer" 379) (none) (.ref 300) (.none) 0) }
noncomputable def o302_38 : Obj := oT []
noncomputable def o303_38 : Obj := { cls := .none, data := .fields #[] }
noncomputable def o304_38 : Obj := oT [.str "symbols" 591, .str "functor" 592, .str "codes" 593, .str "builder" 594, .str "groups" 595, .str "labels" 596, .str "group" 597, .str "row" 598, .str "number" 599]
noncomputable def o305_38 : Obj := oT []
noncomputable def o306_38 : Obj := { cls := .none, data := .func (fD (stmtAt 23) "group_block" "group_block" 0 (.none) (.none) (.none) (.none) (none) (.none) (.none) 0) }
noncomputable def o307_38 : Obj := { cls := .type "code", data := .fields #[.str "group_block" 588, .str "group_block" 589, .str "/claim/cut.py" 590, .int 220 0, .int 3 0, .int 0 0, .int 0 0, .int 3 0, .ref 302, .bool true, .int 181 0, .ref 303, .none, .ref 304, .ref 305, .ref 306, .int 600 0, .int 220 0, .str "/claim/cut.py" 601] }
noncomputable def o308_38 : Obj := { cls := .type "function", data := .func (fD (stmtAt 23) "group_block" "group_block" 3 (.none) (.none) (.none) (.str "clausemill.indexer" 379) (none) (.ref 307) (.none) 0) }
noncomputable def o309_38 : Obj := oT []
noncomputable def o310_38 : Obj := { cls := .none, data := .fields #[] }
noncomputable def o311_38 : Obj := oT [.str "block" 606, .str "where" 607, .str "place" 608]
noncomputable def o312_38 : Obj := oT []
noncomputable def o313_38 : Obj := { cls := .none, data := .func (fD (stmtAt 24) "label_places" "label_places" 0 (.none) (.none) (.none) (.none) (none) (.none) (.none) 0) }
noncomputable def o314_38 : Obj := { cls := .type "code", data := .fields #[.str "label_places" 603, .str "label_places" 604, .str "/claim/cut.py" 605, .int 243 0, .int 1 0, .int 0 0, .int 0 0, .int 3 0, .ref 309, .bool true, .int 181 0, .ref 310, .none, .ref 311, .ref 312, .ref 313, .int 609 0, .int 243 0, .str "/claim/cut.py" 610] }
noncomputable def o315_38 : Obj := { cls := .type "function", data := .func (fD (stmtAt 24) "label_places" "label_places" 3 (.none) (.none) (.none) (.str "clausemill.indexer" 379) (none) (.ref 314) (.none) 0) }
noncomputable def o316_38 : Obj := oT []
noncomputable def o317_38 : Obj := { cls := .none, data := .fields #[] }
noncomputable def o318_38 : Obj := oT [.str "ins" 615, .str "key" 616, .str "kind" 617]
noncomputable def o319_38 : Obj := oT []
noncomputable def o320_38 : Obj := { cls := .none, data := .func (fD (stmtAt 25) "switch_target" "switch_target" 0 (.none) (.none) (.none) (.none) (none) (.none) (.none) 0) }
noncomputable def o321_38 : Obj := { cls := .type "code", data := .fields #[.str "switch_target" 612, .str "switch_target" 613, .str "/claim/cut.py" 614, .int 249 0, .int 2 0, .int 0 0, .int 0 0, .int 3 0, .ref 316, .bool true, .int 181 0, .ref 317, .none, .ref 318, .ref 319, .ref 320, .int 618 0, .int 249 0, .str "/claim/cut.py" 619] }
noncomputable def o322_38 : Obj := { cls := .type "function", data := .func (fD (stmtAt 25) "switch_target" "switch_target" 3 (.none) (.none) (.none) (.str "clausemill.indexer" 379) (none) (.ref 321) (.none) 0) }
noncomputable def o323_38 : Obj := oT []
noncomputable def o324_38 : Obj := { cls := .none, data := .fields #[] }
noncomputable def o325_38 : Obj := oT [.str "ins" 624, .str "key" 625, .str "pair" 626]
noncomputable def o326_38 : Obj := oT []
noncomputable def o327_38 : Obj := { cls := .none, data := .func (fD (stmtAt 26) "table_target" "table_target" 0 (.none) (.none) (.none) (.none) (none) (.none) (.none) 0) }
noncomputable def o328_38 : Obj := { cls := .type "code", data := .fields #[.str "table_target" 621, .str "table_target" 622, .str "/claim/cut.py" 623, .int 258 0, .int 2 0, .int 0 0, .int 0 0, .int 3 0, .ref 323, .bool true, .int 181 0, .ref 324, .none, .ref 325, .ref 326, .ref 327, .int 627 0, .int 258 0, .str "/claim/cut.py" 628] }
noncomputable def o329_38 : Obj := { cls := .type "function", data := .func (fD (stmtAt 26) "table_target" "table_target" 3 (.none) (.none) (.none) (.str "clausemill.indexer" 379) (none) (.ref 328) (.none) 0) }
noncomputable def o330_38 : Obj := oT []
noncomputable def o331_38 : Obj := { cls := .none, data := .fields #[] }
noncomputable def o332_38 : Obj := oT [.str "block" 633, .str "count" 634, .str "key" 635, .str "where" 636, .str "found" 637, .str "pending" 638, .str "place" 639, .str "ins" 640, .str "name" 641, .str "target" 642]
noncomputable def o333_38 : Obj := oT []
noncomputable def o334_38 : Obj := { cls := .none, data := .func (fD (stmtAt 27) "tried_clauses" "tried_clauses" 0 (.none) (.none) (.none) (.none) (none) (.none) (.none) 0) }
noncomputable def o335_38 : Obj := { cls := .type "code", data := .fields #[.str "tried_clauses" 630, .str "tried_clauses" 631, .str "/claim/cut.py" 632, .int 263 0, .int 3 0, .int 0 0, .int 0 0, .int 3 0, .ref 330, .bool true, .int 181 0, .ref 331, .none, .ref 332, .ref 333, .ref 334, .int 643 0, .int 263 0, .str "/claim/cut.py" 644] }
noncomputable def o336_38 : Obj := { cls := .type "function", data := .func (fD (stmtAt 27) "tried_clauses" "tried_clauses" 3 (.none) (.none) (.none) (.str "clausemill.indexer" 379) (none) (.ref 335) (.none) 0) }
noncomputable def o337_38 : Obj := oT []
noncomputable def o338_38 : Obj := { cls := .none, data := .fields #[] }
noncomputable def o339_38 : Obj := oT [.str "codes" 649, .str "keys" 650, .str "greatest" 651, .str "functor" 652, .str "code" 653, .str "key" 654]
noncomputable def o340_38 : Obj := oT []
noncomputable def o341_38 : Obj := { cls := .none, data := .func (fD (stmtAt 28) "sample_keys" "sample_keys" 0 (.none) (.none) (.none) (.none) (none) (.none) (.none) 0) }
noncomputable def o342_38 : Obj := { cls := .type "code", data := .fields #[.str "sample_keys" 646, .str "sample_keys" 647, .str "/claim/cut.py" 648, .int 295 0, .int 1 0, .int 0 0, .int 0 0, .int 3 0, .ref 337, .bool true, .int 181 0, .ref 338, .none, .ref 339, .ref 340, .ref 341, .int 655 0, .int 295 0, .str "/claim/cut.py" 656] }
noncomputable def o343_38 : Obj := { cls := .type "function", data := .func (fD (stmtAt 28) "sample_keys" "sample_keys" 3 (.none) (.none) (.none) (.str "clausemill.indexer" 379) (none) (.ref 342) (.none) 0) }
noncomputable def o344_38 : Obj := oT []
noncomputable def o345_38 : Obj := { cls := .none, data := .fields #[] }
noncomputable def o346_38 : Obj := { cls := .none, data := .func (fD (stmtAt 29) "check_index" "check_index" 0 (.none) (.none) (.none) (.none) (none) (.none) (.none) 0) }
noncomputable def o347_38 : Obj := { cls := .type "code", data := .fields #[.str "check_index" 658, .str "check_index" 659, .str "/claim/cut.py" 660, .int 310 0, .int 3 0, .int 0 0, .int 0 0, .int 3 0, .ref 344, .bool true, .int 181 0, .ref 345, .none, .none, .none, .ref 346, .int 661 0, .int 310 0, .str "/claim/cut.py" 662] }
noncomputable def o348_38 : Obj := { cls := .type "function", data := .func (fD (stmtAt 29) "check_index" "check_index" 3 (.none) (.none) (.none) (.str "clausemill.indexer" 379) (none) (.ref 347) (.none) 0) }
noncomputable def o349_38 : Obj := oT []
noncomputable def o350_38 : Obj := { cls := .type "builtin_function_or_method", data := .fields #[.builtin "type.__prepare__", .type "type"] }
noncomputable def o351_38 (P : Params) : Obj := { cls := .type "dict", data := .dict #[kE P "__module__" 673 (.str "clausemill.compiler" 664), kE P "__qualname__" 675 (.str "ClauseCode" 674), kE P "__firstlineno__" 677 (.int 319 676), kE P "__init__" 688 (.ref 362), kE P "__static_attributes__" 693 (.ref 363)] 5 }
noncomputable def o352_38 : Obj := oT []
noncomputable def o353_38 : Obj := { cls := .none, data := .fields #[.int 321 0, .int 4 0, .ref 361] }
noncomputable def o354_38 : Obj := { cls := .type "code", data := .fields #[.str "ClauseCode" 668, .str "ClauseCode" 669, .str "/claim/cut.py" 670, .int 319 0, .int 0 0, .int 0 0, .int 0 0, .int 0 0, .ref 352, .bool false, .int 181 0, .ref 353, .none, .none, .none, .none, .int 671 0, .int 319 0, .str "/claim/cut.py" 672] }
noncomputable def o355_38 : Obj := { cls := .type "frame", slots := #[some (.ref 354), some (.ref 3), some (.ref 351), none, some (.str "clausemill.compiler" 664), none, some (.ref 0)] }
noncomputable def o356_38 : Obj := oT []
noncomputable def o357_38 : Obj := { cls := .none, data := .fields #[] }
noncomputable def o358_38 : Obj := oT [.str "self" 681, .str "functor" 682, .str "key" 683, .str "instrs" 684, .str "used" 685]
noncomputable def o359_38 : Obj := oT []
noncomputable def o360_38 : Obj := { cls := .none, data := .func (fD (methAt 31 0) "__init__" "ClauseCode.__init__" 0 (.none) (.none) (.none) (.none) (none) (.none) (.none) 0) }
noncomputable def o361_38 : Obj := { cls := .type "code", data := .fields #[.str "__init__" 678, .str "ClauseCode.__init__" 679, .str "/claim/cut.py" 680, .int 321 0, .int 5 0, .int 0 0, .int 0 0, .int 3 0, .ref 356, .bool true, .int 181 0, .ref 357, .none, .ref 358, .ref 359, .ref 360, .int 686 0, .int 321 0, .str "/claim/cut.py" 687] }
noncomputable def o362_38 : Obj := { cls := .type "function", data := .func (fD (methAt 31 0) "__init__" "ClauseCode.__init__" 3 (.none) (.none) (.none) (.str "clausemill.compiler" 664) (none) (.ref 361) (.none) 0) }
noncomputable def o363_38 : Obj := oT [.str "functor" 689, .str "instrs" 690, .str "key" 691, .str "used" 692]
noncomputable def o364_38 (P : Params) : Obj := { cls := .type "dict", data := .dict #[kE P "__module__" 673 (.str "clausemill.compiler" 664), kE P "__firstlineno__" 677 (.int 319 676), kE P "__init__" 688 (.ref 362), kE P "__static_attributes__" 693 (.ref 363), kE P "__dict__" 695 (.ref 366), kE P "__weakref__" 697 (.ref 367), kE P "__doc__" 698 (.none)] 4 }
noncomputable def o365_38 : Obj := { cls := .type "type", data := .cls { name := "ClauseCode", bases := [.type "object"], mro := [.ref 365, .type "object"], ns := 364, qualname := "ClauseCode" }, slots := #[none, none, some (.str "ClauseCode" 666), some (.str "ClauseCode" 674), some (.builtin "object.__new__"), some (.bool true)] }
noncomputable def o366_38 : Obj := { cls := .type "getset_descriptor", data := .fields #[.str "__dict__" 694, .ref 365, .builtin "function.__dict__", .builtin "function.__dict__#set"] }
noncomputable def o367_38 : Obj := { cls := .type "getset_descriptor", data := .fields #[.str "__weakref__" 696, .ref 365, .builtin "ExceptionGroup.__weakref__", .none] }
noncomputable def o368_38 : Obj := { cls := .type "super", data := .fields #[.ref 365, .ref 365, .ref 365] }
noncomputable def o369_38 : Obj := { cls := .type "builtin_function_or_method", data := .fields #[.builtin "object.__init_subclass__", .ref 365] }
noncomputable def o370_38 : Obj := oT []
noncomputable def o371_38 : Obj := { cls := .none, data := .fields #[] }
noncomputable def o372_38 : Obj := oT [.str "script" 706, .str "figures" 707, .str "cell" 708, .str "whole" 709, .str "turn" 710]
noncomputable def o373_38 : Obj := oT []
noncomputable def o374_38 : Obj := { cls := .none, data := .func (fD (stmtAt 33) "_law_figures" "_law_figures" 0 (.none) (.none) (.none) (.none) (none) (.none) (.none) 0) }
noncomputable def o375_38 : Obj := { cls := .type "code", data := .fields #[.str "_law_figures" 703, .str "_law_figures" 704, .str "/claim/cut.py" 705, .int 327 0, .int 1 0, .int 0 0, .int 0 0, .int 3 0, .ref 370, .bool true, .int 181 0, .ref 371, .none, .ref 372, .ref 373, .ref 374, .int 711 0, .int 327 0, .str "/claim/cut.py" 712] }
noncomputable def o376_38 : Obj := { cls := .type "function", data := .func (fD (stmtAt 33) "_law_figures" "_law_figures" 3 (.none) (.none) (.none) (.str "law_rh0083_01" 701) (none) (.ref 375) (.none) 0) }
noncomputable def o377_38 : Obj := oT []
noncomputable def o378_38 : Obj := { cls := .none, data := .fields #[] }
noncomputable def o379_38 : Obj := oT [.str "figures" 717, .str "many" 718]
noncomputable def o380_38 : Obj := oT []
noncomputable def o381_38 : Obj := { cls := .none, data := .func (fD (stmtAt 34) "_law_draw" "_law_draw" 0 (.none) (.none) (.none) (.none) (none) (.none) (.none) 0) }
noncomputable def o382_38 : Obj := { cls := .type "code", data := .fields #[.str "_law_draw" 714, .str "_law_draw" 715, .str "/claim/cut.py" 716, .int 339 0, .int 2 0, .int 0 0, .int 0 0, .int 3 0, .ref 377, .bool true, .int 181 0, .ref 378, .none, .ref 379, .ref 380, .ref 381, .int 719 0, .int 339 0, .str "/claim/cut.py" 720] }
noncomputable def o383_38 : Obj := { cls := .type "function", data := .func (fD (stmtAt 34) "_law_draw" "_law_draw" 3 (.none) (.none) (.none) (.str "law_rh0083_01" 701) (none) (.ref 382) (.none) 0) }
noncomputable def o384_38 : Obj := oT []
noncomputable def o385_38 : Obj := { cls := .none, data := .fields #[] }
noncomputable def o386_38 : Obj := oT [.str "figures" 725, .str "kind" 726, .str "number" 727]
noncomputable def o387_38 : Obj := oT []
noncomputable def o388_38 : Obj := { cls := .none, data := .func (fD (stmtAt 35) "_law_any_key" "_law_any_key" 0 (.none) (.none) (.none) (.none) (none) (.none) (.none) 0) }
noncomputable def o389_38 : Obj := { cls := .type "code", data := .fields #[.str "_law_any_key" 722, .str "_law_any_key" 723, .str "/claim/cut.py" 724, .int 343 0, .int 1 0, .int 0 0, .int 0 0, .int 3 0, .ref 384, .bool true, .int 181 0, .ref 385, .none, .ref 386, .ref 387, .ref 388, .int 728 0, .int 343 0, .str "/claim/cut.py" 729] }
noncomputable def o390_38 : Obj := { cls := .type "function", data := .func (fD (stmtAt 35) "_law_any_key" "_law_any_key" 3 (.none) (.none) (.none) (.str "law_rh0083_01" 701) (none) (.ref 389) (.none) 0) }
noncomputable def o391_38 : Obj := oT []
noncomputable def o392_38 : Obj := { cls := .none, data := .fields #[] }
noncomputable def o393_38 : Obj := oT [.str "figures" 734, .str "block" 735, .str "many" 736, .str "spots" 737, .str "place" 738, .str "row" 739, .str "goal" 740, .str "pairs" 741, .str "spot" 742]
noncomputable def o394_38 : Obj := oT []
noncomputable def o395_38 : Obj := { cls := .none, data := .func (fD (stmtAt 36) "_law_spoiled" "_law_spoiled" 0 (.none) (.none) (.none) (.none) (none) (.none) (.none) 0) }
noncomputable def o396_38 : Obj := { cls := .type "code", data := .fields #[.str "_law_spoiled" 731, .str "_law_spoiled" 732, .str "/claim/cut.py" 733, .int 355 0, .int 3 0, .int 0 0, .int 0 0, .int 3 0, .ref 391, .bool true, .int 181 0, .ref 392, .none, .ref 393, .ref 394, .ref 395, .int 743 0, .int 355 0, .str "/claim/cut.py" 744] }
noncomputable def o397_38 : Obj := { cls := .type "function", data := .func (fD (stmtAt 36) "_law_spoiled" "_law_spoiled" 3 (.none) (.none) (.none) (.str "law_rh0083_01" 701) (none) (.ref 396) (.none) 0) }
noncomputable def o398_38 : Obj := oT []
noncomputable def o399_38 : Obj := { cls := .none, data := .fields #[] }
noncomputable def o400_38 : Obj := { cls := .none, data := .func (fD (stmtAt 37) "law" "law" 0 (.none) (.none) (.none) (.none) (none) (.none) (.none) 0) }
noncomputable def o401_38 : Obj := { cls := .type "code", data := .fields #[.str "law" 746, .str "law" 747, .str "/claim/cut.py" 748, .int 378 0, .int 1 0, .int 0 0, .int 0 0, .int 3 0, .ref 398, .bool true, .int 181 0, .ref 399, .none, .none, .none, .ref 400, .int 749 0, .int 378 0, .str "/claim/cut.py" 750] }
noncomputable def o402_38 : Obj := { cls := .type "function", data := .func (fD (stmtAt 37) "law" "law" 3 (.none) (.none) (.none) (.str "law_rh0083_01" 701) (none) (.ref 401) (.none) 0) }
noncomputable def tr38 (P : Params) : BT := (.node (boot_o_0 P) (.node (boot_o_1 P) (.node (o3_38 P) (.node (boot_o_7 P) (.node o15_6 (.node o31_6 (.node o63_6 (.node o127_18 (lf o255_19) (lf o383_38)) (.node o191_18 (lf o319_38) .nil)) (.node o95_18 (.node o159_18 (lf o287_38) .nil) (.node o223_19 (lf (o351_38 P)) .nil))) (.node o47_6 (.node o79_18 (.node o143_18 (lf o271_19) (lf o399_38)) (.node o207_19 (lf o335_38) .nil)) (.node o111_18 (.node o175_18 (lf o303_38) .nil) (.node o239_19 (lf o367_38) .nil)))) (.node o23_6 (.node o39_6 (.node (o71_18 P) (.node o135_18 (lf o263_19) (lf o391_38)) (.node (o199_19 P) (lf o327_38) .nil)) (.node o103_18 (.node o167_18 (lf o295_38) .nil) (.node o231_19 (lf o359_38) .nil))) (.node o55_6 (.node o87_18 (.node o151_18 (lf o279_38) .nil) (.node o215_19 (lf o343_38) .nil)) (.node o119_18 (.node o183_18 (lf o311_38) .nil) (.node o247_19 (lf o375_38) .nil))))) (.node o11_0 (.node o19_6 (.node o35_6 (.node o67_6 (.node o131_18 (lf o259_19) (lf o387_38)) (.node o195_18 (lf o323_38) .nil)) (.node o99_18 (.node o163_18 (lf o291_38) .nil) (.node o227_19 (lf o355_38) .nil))) (.node (o51_6 P) (.node o83_18 (.node o147_18 (lf o275_38) .nil) (.node o211_19 (lf o339_38) .nil)) (.node o115_18 (.node o179_18 (lf o307_38) .nil) (.node o243_19 (lf o371_38) .nil)))) (.node o27_6 (.node o43_6 (.node o75_18 (.node o139_18 (lf o267_19) (lf o395_38)) (.node o203_19 (lf o331_38) .nil)) (.node o107_18 (.node o171_18 (lf o299_38) .nil) (.node o235_19 (lf o363_38) .nil))) (.node o59_6 (.node o91_18 (.node o155_18 (lf o283_38) .nil) (.node o219_19 (lf o347_38) .nil)) (.node o123_18 (.node o187_18 (lf o315_38) .nil) (.node o251_19 (lf o379_38) .nil)))))) (.node (boot_o_5 P) (.node (boot_o_9 P) (.node o17_6 (.node o33_6 (.node o65_6 (.node o129_18 (lf o257_19) (lf o385_38)) (.node o193_18 (lf o321_38) .nil)) (.node o97_18 (.node o161_18 (lf o289_38) .nil) (.node o225_19 (lf o353_38) .nil))) (.node o49_6 (.node o81_18 (.node o145_18 (lf o273_19) (lf o401_38)) (.node o209_19 (lf o337_38) .nil)) (.node o113_18 (.node o177_18 (lf o305_38) .nil) (.node o241_19 (lf o369_38) .nil)))) (.node o25_6 (.node o41_6 (.node o73_18 (.node o137_18 (lf o265_19) (lf o393_38)) (.node o201_19 (lf o329_38) .nil)) (.node o105_18 (.node o169_18 (lf o297_38) .nil) (.node o233_19 (lf o361_38) .nil))) (.node o57_6 (.node o89_18 (.node o153_18 (lf o281_38) .nil) (.node o217_19 (lf o345_38) .nil)) (.node o121_18 (.node o185_18 (lf o313_38) .nil) (.node o249_19 (lf o377_38) .nil))))) (.node o13_0 (.node o21_6 (.node (o37_6 P) (.node o69_18 (.node o133_18 (lf o261_19) (lf o389_38)) (.node o197_19 (lf o325_38) .nil)) (.node o101_18 (.node o165_18 (lf o293_38) .nil) (.node o229_19 (lf o357_38) .nil))) (.node o53_6 (.node o85_18 (.node o149_18 (lf o277_38) .nil) (.node o213_19 (lf o341_38) .nil)) (.node o117_18 (.node o181_18 (lf o309_38) .nil) (.node o245_19 (lf o373_38) .nil)))) (.node o29_6 (.node o45_6 (.node o77_18 (.node o141_18 (lf o269_19) (lf o397_38)) (.node o205_19 (lf o333_38) .nil)) (.node o109_18 (.node o173_18 (lf o301_38) .nil) (.node o237_19 (lf o365_38) .nil))) (.node o61_6 (.node o93_18 (.node o157_18 (lf o285_38) .nil) (.node o221_19 (lf o349_38) .nil)) (.node o125_18 (.node o189_18 (lf o317_38) .nil) (.node o253_19 (lf o381_38) .nil))))))) (.node (o2_6 P) (.node (boot_o_4 P) (.node (boot_o_8 P) (.node o16_6 (.node o32_6 (.node o64_6 (.node o128_18 (lf o256_19) (lf o384_38)) (.node o192_18 (lf o320_38) .nil)) (.node o96_18 (.node o160_18 (lf o288_38) .nil) (.node o224_19 (lf o352_38) .nil))) (.node o48_6 (.node o80_18 (.node o144_18 (lf o272_19) (lf o400_38)) (.node o208_19 (lf o336_38) .nil)) (.node o112_18 (.node o176_18 (lf o304_38) .nil) (.node o240_19 (lf o368_38) .nil)))) (.node (o24_6 P) (.node o40_6 (.node o72_18 (.node o136_18 (lf o264_19) (lf o392_38)) (.node o200_19 (lf o328_38) .nil)) (.node o104_18 (.node o168_18 (lf o296_38) .nil) (.node o232_19 (lf o360_38) .nil))) (.node o56_6 (.node o88_18 (.node o152_18 (lf o280_38) .nil) (.node o216_19 (lf o344_38) .nil)) (.node o120_18 (.node o184_18 (lf o312_38) .nil) (.node o248_19 (lf o376_38) .nil))))) (.node o12_38 (.node o20_6 (.node o36_6 (.node o68_6 (.node o132_18 (lf o260_19) (lf o388_38)) (.node o196_18 (lf o324_38) .nil)) (.node o100_18 (.node o164_18 (lf o292_38) .nil) (.node o228_19 (lf o356_38) .nil))) (.node o52_6 (.node o84_18 (.node o148_18 (lf o276_38) .nil) (.node o212_19 (lf o340_38) .nil)) (.node o116_18 (.node o180_18 (lf o308_38) .nil) (.node o244_19 (lf o372_38) .nil)))) (.node o28_6 (.node o44_6 (.node o76_18 (.node o140_18 (lf (o268_19 P)) (lf o396_38)) (.node o204_19 (lf o332_38) .nil)) (.node o108_18 (.node o172_18 (lf o300_38) .nil) (.node o236_19 (lf (o364_38 P)) .nil))) (.node o60_6 (.node o92_18 (.node o156_18 (lf o284_38) .nil) (.node o220_19 (lf o348_38) .nil)) (.node o124_18 (.node o188_18 (lf o316_38) .nil) (.node o252_19 (lf o380_38) .nil)))))) (.node (boot_o_6 P) (.node (boot_o_10 P) (.node o18_6 (.node o34_6 (.node o66_6 (.node o130_18 (lf o258_19) (lf o386_38)) (.node o194_18 (lf o322_38) .nil)) (.node o98_18 (.node o162_18 (lf o290_38) .nil) (.node o226_19 (lf o354_38) .nil))) (.node o50_6 (.node o82_18 (.node o146_18 (lf o274_38) (lf o402_38)) (.node o210_19 (lf o338_38) .nil)) (.node o114_18 (.node o178_18 (lf o306_38) .nil) (.node o242_19 (lf o370_38) .nil)))) (.node o26_6 (.node o42_6 (.node o74_18 (.node o138_18 (lf o266_19) (lf o394_38)) (.node o202_19 (lf o330_38) .nil)) (.node o106_18 (.node o170_18 (lf o298_38) .nil) (.node o234_19 (lf o362_38) .nil))) (.node o58_6 (.node o90_18 (.node (o154_18 P) (lf o282_38) .nil) (.node o218_19 (lf o346_38) .nil)) (.node o122_18 (.node o186_18 (lf o314_38) .nil) (.node o250_19 (lf o378_38) .nil))))) (.node o14_0 (.node o22_6 (.node o38_6 (.node o70_18 (.node o134_18 (lf o262_19) (lf o390_38)) (.node o198_19 (lf o326_38) .nil)) (.node o102_18 (.node o166_18 (lf o294_38) .nil) (.node o230_19 (lf o358_38) .nil))) (.node o54_6 (.node o86_18 (.node o150_18 (lf o278_38) .nil) (.node o214_19 (lf o342_38) .nil)) (.node o118_18 (.node o182_18 (lf o310_38) .nil) (.node o246_19 (lf o374_38) .nil)))) (.node (o30_6 P) (.node o46_6 (.node o78_18 (.node o142_18 (lf o270_19) (lf o398_38)) (.node o206_19 (lf o334_38) .nil)) (.node o110_18 (.node o174_18 (lf o302_38) .nil) (.node o238_19 (lf o366_38) .nil))) (.node o62_6 (.node o94_18 (.node o158_18 (lf o286_38) .nil) (.node o222_19 (lf o350_38) .nil)) (.node o126_18 (.node o190_18 (lf o318_38) .nil) (.node o254_19 (lf o382_38) .nil))))))))
noncomputable def hpF (P : Params) : Heap := ⟨⟨[(boot_o_0 P), (boot_o_1 P), (o2_6 P), (o3_38 P), (boot_o_4 P), (boot_o_5 P), (boot_o_6 P), (boot_o_7 P), (boot_o_8 P), (boot_o_9 P), (boot_o_10 P), o11_0, o12_38, o13_0, o14_0, o15_6, o16_6, o17_6, o18_6, o19_6, o20_6, o21_6, o22_6, o23_6, (o24_6 P), o25_6, o26_6, o27_6, o28_6, o29_6, (o30_6 P), o31_6, o32_6, o33_6, o34_6, o35_6, o36_6, (o37_6 P), o38_6, o39_6, o40_6, o41_6, o42_6, o43_6, o44_6, o45_6, o46_6, o47_6, o48_6, o49_6, o50_6, (o51_6 P), o52_6, o53_6, o54_6, o55_6, o56_6, o57_6, o58_6, o59_6, o60_6, o61_6, o62_6, o63_6, o64_6, o65_6, o66_6, o67_6, o68_6, o69_18, o70_18, (o71_18 P), o72_18, o73_18, o74_18, o75_18, o76_18, o77_18, o78_18, o79_18, o80_18, o81_18, o82_18, o83_18, o84_18, o85_18, o86_18, o87_18, o88_18, o89_18, o90_18, o91_18, o92_18, o93_18, o94_18, o95_18, o96_18, o97_18, o98_18, o99_18, o100_18, o101_18, o102_18, o103_18, o104_18, o105_18, o106_18, o107_18, o108_18, o109_18, o110_18, o111_18, o112_18, o113_18, o114_18, o115_18, o116_18, o117_18, o118_18, o119_18, o120_18, o121_18, o122_18, o123_18, o124_18, o125_18, o126_18, o127_18, o128_18, o129_18, o130_18, o131_18, o132_18, o133_18, o134_18, o135_18, o136_18, o137_18, o138_18, o139_18, o140_18, o141_18, o142_18, o143_18, o144_18, o145_18, o146_18, o147_18, o148_18, o149_18, o150_18, o151_18, o152_18, o153_18, (o154_18 P), o155_18, o156_18, o157_18, o158_18, o159_18, o160_18, o161_18, o162_18, o163_18, o164_18, o165_18, o166_18, o167_18, o168_18, o169_18, o170_18, o171_18, o172_18, o173_18, o174_18, o175_18, o176_18, o177_18, o178_18, o179_18, o180_18, o181_18, o182_18, o183_18, o184_18, o185_18, o186_18, o187_18, o188_18, o189_18, o190_18, o191_18, o192_18, o193_18, o194_18, o195_18, o196_18, o197_19, o198_19, (o199_19 P), o200_19, o201_19, o202_19, o203_19, o204_19, o205_19, o206_19, o207_19, o208_19, o209_19, o210_19, o211_19, o212_19, o213_19, o214_19, o215_19, o216_19, o217_19, o218_19, o219_19, o220_19, o221_19, o222_19, o223_19, o224_19, o225_19, o226_19, o227_19, o228_19, o229_19, o230_19, o231_19, o232_19, o233_19, o234_19, o235_19, o236_19, o237_19, o238_19, o239_19, o240_19, o241_19, o242_19, o243_19, o244_19, o245_19, o246_19, o247_19, o248_19, o249_19, o250_19, o251_19, o252_19, o253_19, o254_19, o255_19, o256_19, o257_19, o258_19, o259_19, o260_19, o261_19, o262_19, o263_19, o264_19, o265_19, o266_19, o267_19, (o268_19 P), o269_19, o270_19, o271_19, o272_19, o273_19, o274_38, o275_38, o276_38, o277_38, o278_38, o279_38, o280_38, o281_38, o282_38, o283_38, o284_38, o285_38, o286_38, o287_38, o288_38, o289_38, o290_38, o291_38, o292_38, o293_38, o294_38, o295_38, o296_38, o297_38, o298_38, o299_38, o300_38, o301_38, o302_38, o303_38, o304_38, o305_38, o306_38, o307_38, o308_38, o309_38, o310_38, o311_38, o312_38, o313_38, o314_38, o315_38, o316_38, o317_38, o318_38, o319_38, o320_38, o321_38, o322_38, o323_38, o324_38, o325_38, o326_38, o327_38, o328_38, o329_38, o330_38, o331_38, o332_38, o333_38, o334_38, o335_38, o336_38, o337_38, o338_38, o339_38, o340_38, o341_38, o342_38, o343_38, o344_38, o345_38, o346_38, o347_38, o348_38, o349_38, o350_38, (o351_38 P), o352_38, o353_38, o354_38, o355_38, o356_38, o357_38, o358_38, o359_38, o360_38, o361_38, o362_38, o363_38, (o364_38 P), o365_38, o366_38, o367_38, o368_38, o369_38, o370_38, o371_38, o372_38, o373_38, o374_38, o375_38, o376_38, o377_38, o378_38, o379_38, o380_38, o381_38, o382_38, o383_38, o384_38, o385_38, o386_38, o387_38, o388_38, o389_38, o390_38, o391_38, o392_38, o393_38, o394_38, o395_38, o396_38, o397_38, o398_38, o399_38, o400_38, o401_38, o402_38]⟩, {}⟩
noncomputable def tEnv : Env := { scope := pw.main.scope, locals := mainNs, globals := mainNs, cells := [], code := .ref 13, frame := some 14 }
noncomputable def tBody : List Stmt := behindTheImports pw
noncomputable def tCode : PySem.Code := PySem.Code.body tBody tEnv
noncomputable def tAnn : Option Value := some (.ref 6)
noncomputable def tPos : Pos := ⟨0, 0, 0, 0⟩
noncomputable def tG (a b : Nat) : List Stmt := (tBody.drop a).take b
noncomputable def tSt (t : Params → BT) (n k : Nat) (w : World) (os : OsState) : SharedT := ⟨t w.params, n, {}, #[], {}, k, os⟩
theorem t_pre (w : World) (os : OsState) : topGo treeTable pw w 11 tAnn 12 ⟨boot_heap w.params, Array.mk [], boot_drawn, boot_toks, os⟩ (topStub pw) = some ((tSt tr0 15 187 w os).abs, ⟨denote treeTable tCode, tCode, tPos, [topFrame tPos]⟩) := by kernel_rfl
theorem t_block (w : World) (os : OsState) : segRun treeTable pw w 11 tAnn 1 1 (tSt tr0 15 187 w os).abs (PySem.W.blockOf tBody tEnv tCode tPos [topFrame tPos]) = some (.next, (tSt tr0 15 187 w os).abs, tCode, tPos) := by kernel_rfl
theorem t_run6 (w : World) (os : OsState) : segRunT treeTable pw w 11 tAnn 1 538 (tSt tr0 15 187 w os) (piecesOf (tG 0 6) tEnv tCode ⟨0, 0, 0, 0⟩ [topFrame tPos]) = some (.next, tSt tr6 69 254 w os, tCode, ⟨13, 0, 14, 389⟩) := by kernel_rfl
theorem t_run18 (w : World) (os : OsState) : segRunT treeTable pw w 11 tAnn 1 768 (tSt tr6 69 254 w os) (piecesOf (tG 6 12) tEnv tCode ⟨13, 0, 14, 389⟩ [topFrame tPos]) = some (.next, tSt tr18 197 428 w os, tCode, ⟨93, 0, 97, 15⟩) := by kernel_rfl
theorem t_run19 (w : World) (os : OsState) : segRunT treeTable pw w 11 tAnn 1 508 (tSt tr18 197 428 w os) (piecesOf (tG 18 1) tEnv tCode ⟨93, 0, 97, 15⟩ [topFrame tPos]) = some (.next, tSt tr19 274 550 w os, tCode, ⟨98, 0, 186, 24⟩) := by kernel_rfl
theorem t_run38 (w : World) (os : OsState) : segRunT treeTable pw w 11 tAnn 1 758 (tSt tr19 274 550 w os) (piecesOf (tG 19 19) tEnv tCode ⟨98, 0, 186, 24⟩ [topFrame tPos]) = some (.next, tSt tr38 403 752 w os, tCode, ⟨378, 0, 420, 15⟩) := by kernel_rfl
noncomputable def tK (P : Params) : Frag := [(2, (o2_6 P)), (3, (o3_38 P)), (15, o15_6), (17, o17_6), (18, o18_6), (20, o20_6), (21, o21_6), (22, o22_6), (29, o29_6), (30, (o30_6 P)), (31, o31_6), (32, o32_6), (35, o35_6), (42, o42_6), (43, o43_6), (45, o45_6), (46, o46_6), (48, o48_6), (49, o49_6), (50, o50_6), (51, (o51_6 P)), (52, o52_6), (55, o55_6), (57, o57_6), (58, o58_6), (60, o60_6), (61, o61_6), (62, o62_6), (64, o64_6), (65, o65_6), (67, o67_6), (68, o68_6), (76, o76_18), (78, o78_18), (79, o79_18), (81, o81_18), (82, o82_18), (83, o83_18), (85, o85_18), (86, o86_18), (88, o88_18), (89, o89_18), (90, o90_18), (92, o92_18), (93, o93_18), (95, o95_18), (96, o96_18), (97, o97_18), (99, o99_18), (100, o100_18), (102, o102_18), (103, o103_18), (104, o104_18), (106, o106_18), (107, o107_18), (109, o109_18), (110, o110_18), (111, o111_18), (113, o113_18), (114, o114_18), (116, o116_18), (117, o117_18), (118, o118_18), (120, o120_18), (121, o121_18), (123, o123_18), (124, o124_18), (125, o125_18), (127, o127_18), (128, o128_18), (130, o130_18), (131, o131_18), (132, o132_18), (134, o134_18), (135, o135_18), (137, o137_18), (138, o138_18), (139, o139_18), (141, o141_18), (142, o142_18), (144, o144_18), (145, o145_18), (146, o146_18), (148, o148_18), (149, o149_18), (151, o151_18), (152, o152_18), (153, o153_18), (154, (o154_18 P)), (155, o155_18), (156, o156_18), (157, o157_18), (160, o160_18), (161, o161_18), (162, o162_18), (164, o164_18), (165, o165_18), (167, o167_18), (168, o168_18), (169, o169_18), (171, o171_18), (172, o172_18), (174, o174_18), (175, o175_18), (176, o176_18), (178, o178_18), (179, o179_18), (181, o181_18), (182, o182_18), (183, o183_18), (185, o185_18), (186, o186_18), (188, o188_18), (189, o189_18), (190, o190_18), (192, o192_18), (193, o193_18), (195, o195_18), (196, o196_18), (204, o204_19), (206, o206_19), (207, o207_19), (209, o209_19), (210, o210_19), (211, o211_19), (213, o213_19), (214, o214_19), (216, o216_19), (217, o217_19), (218, o218_19), (220, o220_19), (221, o221_19), (223, o223_19), (224, o224_19), (225, o225_19), (227, o227_19), (228, o228_19), (230, o230_19), (231, o231_19), (232, o232_19), (234, o234_19), (235, o235_19), (237, o237_19), (238, o238_19), (239, o239_19), (241, o241_19), (242, o242_19), (244, o244_19), (245, o245_19), (246, o246_19), (248, o248_19), (249, o249_19), (251, o251_19), (252, o252_19), (253, o253_19), (255, o255_19), (256, o256_19), (258, o258_19), (259, o259_19), (260, o260_19), (262, o262_19), (263, o263_19), (265, o265_19), (266, o266_19), (267, o267_19), (268, (o268_19 P)), (269, o269_19), (270, o270_19), (271, o271_19), (274, o274_38), (276, o276_38), (277, o277_38), (279, o279_38), (280, o280_38), (281, o281_38), (283, o283_38), (284, o284_38), (286, o286_38), (287, o287_38), (288, o288_38), (290, o290_38), (291, o291_38), (293, o293_38), (294, o294_38), (295, o295_38), (297, o297_38), (298, o298_38), (300, o300_38), (301, o301_38), (302, o302_38), (304, o304_38), (305, o305_38), (307, o307_38), (308, o308_38), (309, o309_38), (311, o311_38), (312, o312_38), (314, o314_38), (315, o315_38), (316, o316_38), (318, o318_38), (319, o319_38), (321, o321_38), (322, o322_38), (323, o323_38), (325, o325_38), (326, o326_38), (328, o328_38), (329, o329_38), (330, o330_38), (332, o332_38), (333, o333_38), (335, o335_38), (336, o336_38), (337, o337_38), (339, o339_38), (340, o340_38), (342, o342_38), (343, o343_38), (344, o344_38), (347, o347_38), (348, o348_38), (356, o356_38), (358, o358_38), (359, o359_38), (361, o361_38), (362, o362_38), (363, o363_38), (364, (o364_38 P)), (365, o365_38), (366, o366_38), (367, o367_38), (370, o370_38), (372, o372_38), (373, o373_38), (375, o375_38), (376, o376_38), (377, o377_38), (379, o379_38), (380, o380_38), (382, o382_38), (383, o383_38), (384, o384_38), (386, o386_38), (387, o387_38), (389, o389_38), (390, o390_38), (391, o391_38), (393, o393_38), (394, o394_38), (396, o396_38), (397, o397_38), (398, o398_38), (401, o401_38), (402, o402_38)]
noncomputable def tAs : List Addr := [2, 3, 15, 17, 18, 20, 21, 22, 29, 30, 31, 32, 35, 42, 43, 45, 46, 48, 49, 50, 51, 52, 55, 57, 58, 60, 61, 62, 64, 65, 67, 68, 76, 78, 79, 81, 82, 83, 85, 86, 88, 89, 90, 92, 93, 95, 96, 97, 99, 100, 102, 103, 104, 106, 107, 109, 110, 111, 113, 114, 116, 117, 118, 120, 121, 123, 124, 125, 127, 128, 130, 131, 132, 134, 135, 137, 138, 139, 141, 142, 144, 145, 146, 148, 149, 151, 152, 153, 154, 155, 156, 157, 160, 161, 162, 164, 165, 167, 168, 169, 171, 172, 174, 175, 176, 178, 179, 181, 182, 183, 185, 186, 188, 189, 190, 192, 193, 195, 196, 204, 206, 207, 209, 210, 211, 213, 214, 216, 217, 218, 220, 221, 223, 224, 225, 227, 228, 230, 231, 232, 234, 235, 237, 238, 239, 241, 242, 244, 245, 246, 248, 249, 251, 252, 253, 255, 256, 258, 259, 260, 262, 263, 265, 266, 267, 268, 269, 270, 271, 274, 276, 277, 279, 280, 281, 283, 284, 286, 287, 288, 290, 291, 293, 294, 295, 297, 298, 300, 301, 302, 304, 305, 307, 308, 309, 311, 312, 314, 315, 316, 318, 319, 321, 322, 323, 325, 326, 328, 329, 330, 332, 333, 335, 336, 337, 339, 340, 342, 343, 344, 347, 348, 356, 358, 359, 361, 362, 363, 364, 365, 366, 367, 370, 372, 373, 375, 376, 377, 379, 380, 382, 383, 384, 386, 387, 389, 390, 391, 393, 394, 396, 397, 398, 401, 402]
noncomputable def tHook : Hook := kHook tK tAs (fun _ => by kernel_rfl)
noncomputable def tView : Program := view pw [0, 2, 3, 4, 5, 6, 7, 8, 10, 11, 12, 13, 14, 15, 16, 17, 18, 19, 20, 21, 22, 23, 24, 25, 26, 27, 28, 29, 31, 33, 34, 35, 36, 37]
noncomputable def tLoose : List Str := [Str.ofString "LinkFault"]
noncomputable def tX : Shared → Bool := fun s => xlAt tView [] s && recOk (RowW.records (OpenRow.toRowW (OpenLaw.row PySem.Challenge.rw_rh0083_01))) s
theorem t_open : ∀ w : World, (fencedOpening treeTable pw w 5262).map (fun s => (s.heap, s.gens, s.drawn, s.toks)) = some (boot_heap w.params, Array.mk [], boot_drawn, boot_toks) :=
  boot_open (p := pw) (by kernel_rfl) (by kernel_rfl) (fun s => by kernel_rfl)
theorem t_size (w : World) : ((boot_heap w.params).isNs mainGlobals && (Array.mk [] : Array GenState).size == 0, (boot_heap w.params).objs.size, (boot_heap w.params).nsMap mainGlobals "__annotations__") = (true, 11, tAnn) := by kernel_rfl
theorem t_abs (w : World) (os : OsState) : (tSt tr38 403 752 w os).abs = ⟨hpF w.params, #[], {}, 752, os⟩ := by kernel_rfl
theorem t_body : tBody = tG 0 6 ++ (tG 6 12 ++ (tG 18 1 ++ (tG 19 19 ++ []))) := by kernel_rfl
theorem t_fin (w : World) (os : OsState) : topRun treeTable pw w 11 tAnn 2 ⟨hpF w.params, #[], {}, 752, os⟩ ⟨doneF .next, tCode, ⟨378, 0, 420, 15⟩, [topFrame tPos]⟩ = some ⟨hpF w.params, #[], {}, 752, os⟩ := by kernel_rfl
theorem t_run (w : World) (os : OsState) : topRun treeTable pw w 11 tAnn (12 + (1 + (538 + (768 + (508 + (758 + 2)))))) ⟨boot_heap w.params, Array.mk [], boot_drawn, boot_toks, os⟩ (topStub pw) = some ⟨hpF w.params, #[], {}, 752, os⟩ := by
  refine go_top (t_pre w os) (piece_block (t_block w os) ?_)
  rw [t_body]
  exact piece_app (segRun_of (t_run6 w os)) (piece_app (segRun_of (t_run18 w os)) (piece_app (segRun_of (t_run19 w os)) (piece_app (segRun_of (t_run38 w os)) (by rw [t_abs]; exact t_fin w os))))
theorem t_look1 (w : World) (os : OsState) : (staticsOk (importedModules pw.main.body) (boot_heap w.params) (hpF w.params) && namesBound pw (hpF w.params) && gensDone ⟨hpF w.params, #[], {}, 752, os⟩ && laidKept (boot_heap w.params) (hpF w.params)) = true := by kernel_rfl
theorem t_look2 (w : World) (os : OsState) : openSeen tView tLoose (importedModules pw.main.body) tX true ⟨hpF w.params, #[], {}, 752, os⟩ = openGood tView tLoose := by kernel_rfl
theorem t_look3 (w : World) (os : OsState) : tHook.obs ⟨hpF w.params, #[], {}, 752, os⟩ = tHook.val w := by kernel_rfl
theorem t_left : LeftO pw tView tLoose tX tHook.obs tHook.val 5262 :=
  LeftO.of_pieces (H₀ := boot_heap) (H₁ := hpF) (gs₀ := Array.mk []) (gs₁ := #[]) (d₀ := boot_drawn) (d₁ := {}) (k₀ := boot_toks) (k₁ := 752) (m₀ := 11) (ann := tAnn) t_open t_size t_run (by kernel_rfl) (fun w => funext fun os => by
    rw [t_look1, t_look2, t_look3])
theorem fnOf {C : Cx} {fa : Addr} {st : Stmt} (h : ∃ o fd, C.K.lookup fa = some o ∧ o.cls = .type "function" ∧ o.data = .func fd ∧ fd.scope = sScope st ∧ fd.body = .stmts (sBody st) ∧ fd.globals = mainGlobals ∧ fd.builtins = builtinsNs ∧ fd.closure = [] ∧ codeIn C.K fd.code fd.qualname = true ∧
    ∀ xs : List Value, xs.length = (sParams st).length → bindArgs fd ⟨xs, []⟩ = pure ((sParams st).zip xs)) : FnIs C fa (sParams st) (sBody st) (sScope st) := ⟨h⟩
theorem arg0 {Q : List Value → Prop} (h : Q []) : ∀ xs : List Value, xs.length = 0 → Q xs
  | [], _ => h
theorem arg1 {Q : List Value → Prop} (h : ∀ a, Q [a]) : ∀ xs : List Value, xs.length = 1 → Q xs
  | [a], _ => h a
theorem arg2 {Q : List Value → Prop} (h : ∀ a b, Q [a, b]) : ∀ xs : List Value, xs.length = 2 → Q xs
  | [a, b], _ => h a b
theorem arg3 {Q : List Value → Prop} (h : ∀ a b c, Q [a, b, c]) : ∀ xs : List Value, xs.length = 3 → Q xs
  | [a, b, c], _ => h a b c
theorem arg4 {Q : List Value → Prop} (h : ∀ a b c d, Q [a, b, c, d]) : ∀ xs : List Value, xs.length = 4 → Q xs
  | [a, b, c, d], _ => h a b c d
theorem arg5 {Q : List Value → Prop} (h : ∀ a b c d e, Q [a, b, c, d, e]) : ∀ xs : List Value, xs.length = 5 → Q xs
  | [a, b, c, d, e], _ => h a b c d e
theorem vTup {C : Cx} (ok : C.Ok) {x : Str} {a : Addr} {o : Obj} {s : Str} {t : Tok} {k : Nat} (h1 : nsIn C.K mainGlobals x = some (some (.ref a))) (h2 : C.K.lookup a = some o) (h3 : o.cls = .type "tuple") (h4 : o.data = .seq #[.str s t] k) (ok1 : PyData.strOk s = true) (nd : (x == ("__debug__" : Str)) = false) : GlobV C x (.dat (.tuple [.str s])) :=
  ⟨⟨_, h1, okD_tuple (by intro d hd; rcases List.mem_singleton.mp hd with rfl; exact (VR.mkStr (h := C.h₀) ok1 t).1) (by simp [PyData.depthAll, PyData.depth]), _, .tuple (ok.kin _ _ h2) h3 h4 (.cons (.str s t) .nil)⟩, nd⟩
theorem vInt {C : Cx} {x : Str} {i : Int} {t : Tok} (h1 : nsIn C.K mainGlobals x = some (some (.int i t))) (nd : (x == ("__debug__" : Str)) = false) : GlobV C x (.int i) := ⟨⟨_, h1, VR.mkInt _ _⟩, nd⟩
theorem TxOf {C : Cx} (ok : C.Ok) (hK : C.K = tK C.w.params) : Tx C := by
  obtain ⟨w, K, h0, mg, mb, os, cls⟩ := C
  dsimp only at hK
  subst hK
  refine ⟨ok, ?_, ?_, ?_, ?_, ?_, ?_, ?_, ?_⟩
  · exact ⟨vTup ok (a := 160) (k := 0) rfl rfl rfl rfl (by decide +kernel) rfl, vTup ok (a := 161) (k := 0) rfl rfl rfl rfl (by decide +kernel) rfl, vInt (t := _) rfl rfl, vInt (t := _) rfl rfl, vInt (t := _) rfl rfl, trivial⟩
  · simp only [AllP, gF]
    repeat' constructor
    all_goals rfl
  · simp only [AllP, gB]
    repeat' constructor
    all_goals first | rfl | decide | (intro a h; cases h)
  · simp only [AllP, gC]
    repeat' constructor
  · simp only [AllP, gM]
    repeat' constructor
  · simp only [AllP, gA]
    repeat' constructor
  · simp only [AllP, gA]
    repeat' constructor
  · simp only [AllP, gN]
    repeat' apply And.intro
    all_goals first
      | trivial
      | exact fnOf ⟨_, _, rfl, rfl, rfl, rfl, rfl, rfl, rfl, rfl, rfl, arg0 rfl⟩
      | exact fnOf ⟨_, _, rfl, rfl, rfl, rfl, rfl, rfl, rfl, rfl, rfl, arg1 fun _ => rfl⟩
      | exact fnOf ⟨_, _, rfl, rfl, rfl, rfl, rfl, rfl, rfl, rfl, rfl, arg2 fun _ _ => rfl⟩
      | exact fnOf ⟨_, _, rfl, rfl, rfl, rfl, rfl, rfl, rfl, rfl, rfl, arg3 fun _ _ _ => rfl⟩
      | exact fnOf ⟨_, _, rfl, rfl, rfl, rfl, rfl, rfl, rfl, rfl, rfl, arg4 fun _ _ _ _ => rfl⟩
      | exact fnOf ⟨_, _, rfl, rfl, rfl, rfl, rfl, rfl, rfl, rfl, rfl, arg5 fun _ _ _ _ _ => rfl⟩
noncomputable def cxOf (w : World) (K : Frag) (s : Shared) (mg mb : Str → Option Value) : Cx := ⟨w, K, s.heap, mg, mb, s.os, fun _ => False⟩
theorem look_a : sreFenced pw.main = true := by kernel_rfl
theorem look_r : namesResolve pw = true := by kernel_rfl
theorem look_b : pw.boundNames.all (fun n => !worldNames.contains n) = true := by kernel_rfl
theorem look_m : namesMeet pw pw.main.body (fun _ n => attrL n) = true := by kernel_rfl
theorem looks : looksOpen pw = true := by
  delta looksOpen
  repeat' (with_reducible apply look_both)
  · exact look_a
  · kernel_rfl
  · exact look_r
  · exact look_b
  · kernel_rfl
  · exact look_m
theorem said : PySem.Challenge.rw_rh0083_01.wellSaid = true := by
  delta OpenLaw.wellSaid
  repeat' (with_reducible apply look_both)
  case x.x.x.x.x.x.x.x.x.x.x.x.x.x.x.x.x.x =>
    delta OpenRow.wellSaid
    repeat' (with_reducible apply look_both)
    case x.x =>
      delta OpenRow.partSaid
      repeat' (with_reducible apply look_both)
      case x.x.x.x.x.x.x.x.x.x.x.x.x => exact looks
      all_goals kernel_rfl
    all_goals kernel_rfl
  all_goals kernel_rfl
end Mine
open Mine
theorem PySem.Challenge.cw_rh0083_01_holds : PySem.Challenge.rw_rh0083_01.Holds := by
  w_on
  refine holds_law said fun said' => ?_
  refine holds_open (q := tView) (loose := tLoose) (Xt := tX) (XP := XL tView []) (Yf := tHook.obs) (Ya := tHook.val) (YP := tHook.says) (d := { name := Str.ofString "law", params := sArgs (stmtAt 37), body := sBody (stmtAt 37), scope := sScope (stmtAt 37), pos := (stmtAt 37).pos }) (kwd := []) (N := 5262) t_left tHook.of tHook.keeps (fun s e => xl_of s (Bool.and_eq_true_iff.mp e).1) XL.keeps (by kernel_rfl) (by kernel_rfl) (by kernel_rfl) (fun s e => recFacts_of (Bool.and_eq_true_iff.mp e).2) (by kernel_rfl) said' (by kernel_rfl) ⟨rfl, rfl, rfl, rfl, rfl, by decide +kernel⟩ ?hw ?hc
  case hw => w_witness2
  case hc =>
    intro w s₀ s₁ mg mb G Y fa o pm cd doc dV kV ho hd hcd hD hmg hg args vals as hpre hlay hrd hwl hlo
    have KX := kIn_of Y
    clear Y
    refine Ground.open G ?_
    intro T B D TE TW
    clear G B D TE TW hmg
    have ok : (cxOf w (tK w.params) s₁ mg mb).Ok := ⟨KX, T.g, T.b, T.nolimit, T.builtins⟩
    have Tt : Tx (cxOf w (tK w.params) s₁ mg mb) := TxOf ok rfl
    wrow_args hpre hlay hrd hwl hlo
    refine enter_call ?_
    refine codeAny_mono ?_ (fun _ _ g => GoodW.toG g)
    have K0 := below_caller (Top.heap T)
    w_call any ho hd hcd hD T F
    rename_i ns hs hlay0 hL1 hr1 hl2 a1 a2 l xs a3 hL ra w1 r0 hI hr hc2 hc1 h₁ tk o4 o3 o2 o1 o0 e4 e3 e2 e1 e0 N0 X0
    have hlen : ns.length ≤ 1000 := by omega
    refine law_frame (C := cxOf w (tK w.params) s₁ mg mb) (l := l) (xs := xs) (ns := ns) Tt rfl rfl hg hL hI hlen F N0 X0 (by rfl) ?_
    intro s' hk hos hgs
    exact ⟨.inl ⟨_, .bool true, [], rfl, fun _ => rfl, .bool true, by wrow_post, fun _ => ⟨.nil, by simp⟩⟩, hk, hos, hgs⟩
