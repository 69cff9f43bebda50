import PyProof.Rows.All
import Wide.All
import OpenK.AllK
import Wide.FinOn
import PySem.Challenge.RW_og0085_02
open PySem PySem.W PyProof.Rows PySem.Calls PySem.Spec
local macro_rules | `(tactic| omega) => `(tactic| lia)
local macro_rules | `(tactic| walk_at "hk") => `(tactic| repeat' (first | exact fun _ h => absurd h List.not_mem_nil | refine List.forall_mem_cons.mpr ⟨by first | exact .inl rfl | exact .inr ⟨rfl, fun _ => rfl⟩, ?_⟩))
section
open PySem PySem.W PyProof.Rows
set_option Elab.async false
set_option maxRecDepth 100000
set_option maxHeartbeats 0
namespace Mine
def runT (tb : String → Option Builtin) (p : Program) (w : World) (n₀ : Nat) (ann : Option Value) : Nat → SharedT → Thread → Option SharedT
  | 0, _, _ => none
  | n + 1, s, t => match through t with
    | true => some s
    | false => match stepOk n₀ ann t with
      | false => none
      | true => match stepT (denote tb) p w s t with
        | some (s', t') => runT tb p w n₀ ann n s' t'
        | none => none
theorem runT_spec {tb : String → Option Builtin} {p : Program} {w : World} {n₀ : Nat} {ann : Option Value} : ∀ {n : Nat} {s s' : SharedT} {t : Thread}, runT tb p w n₀ ann n s t = some s' → topRun tb p w n₀ ann n s.abs t = some s'.abs
  | 0, _, _, _, h => by cases h
  | n + 1, s, s', t, h => by
    unfold runT at h
    unfold topRun
    cases he : through t with
    | true => rw [he] at h; cases h; rfl
    | false =>
      rw [he] at h
      cases hk : stepOk n₀ ann t with
      | false => rw [hk] at h; cases h
      | true =>
        rw [hk] at h
        cases hs : stepT (denote tb) p w s t with
        | none => rw [hs] at h; cases h
        | some r => obtain ⟨s₂, t₂⟩ := r; rw [hs] at h; rw [stepT_spec hs]; exact runT_spec h
def treeGo : List Obj → Nat → BT → BT
  | [], _, t => t
  | o :: l, i, t => treeGo l (i + 1) (t.ins i o)
theorem left_of_tree {p q : Program} {loose : List Str} {Xt : Shared → Bool} {α : Type} {Yf : Shared → α} {Ya : World → α} {N : Nat} {g0 : Bool} {H₀ : Params → Heap} {T₀ : Params → BT} {m₀ : Nat} {life : Life} {gs₀ : Array GenState} {d₀ : Drawn} {k₀ : Nat} {ann : Option Value}
    (open_ : ∀ w : World, (fencedOpening treeTable p w N).map (fun s => (s.heap, s.gens, s.drawn, s.toks)) = some (H₀ w.params, gs₀, d₀, k₀))
    (size : ∀ w : World, ((H₀ w.params).isNs mainGlobals && gs₀.size == 0, (H₀ w.params).objs.size, (H₀ w.params).nsMap mainGlobals "__annotations__") = (true, m₀, ann))
    (tree : ∀ w : World, absHeap (T₀ w.params) m₀ life = H₀ w.params)
    (run : ∀ (w : World) (os : OsState), (runT treeTable p w m₀ ann N ⟨T₀ w.params, m₀, life, gs₀, d₀, k₀, os⟩ (topStub p)).map (fun r =>
        ((staticsOk (importedModules p.main.body) (H₀ w.params) r.abs.heap && namesBound p r.abs.heap && gensDone r.abs && laidKept (H₀ w.params) r.abs.heap),
         openSeen q loose (importedModules p.main.body) Xt g0 r.abs, Yf r.abs)) = some (true, openGood q loose, Ya w)) : LeftO p q loose Xt Yf Ya N g0 := fun w => by
  obtain ⟨⟨h, gs, d, k, os⟩, e, e'⟩ := Option.map_eq_some_iff.mp (open_ w)
  obtain ⟨rfl, rfl, rfl, rfl⟩ : h = H₀ w.params ∧ gs = gs₀ ∧ d = d₀ ∧ k = k₀ := by simpa using e'
  obtain ⟨z1, z2, z3⟩ : _ ∧ _ ∧ _ := by simpa only [Prod.mk.injEq] using size w
  obtain ⟨r, hr, l⟩ := Option.map_eq_some_iff.mp (run w os)
  obtain ⟨l1, l2, l3⟩ : _ ∧ _ ∧ _ := by simpa only [Prod.mk.injEq] using l
  have hr' : topRun treeTable p w m₀ ann N ⟨H₀ w.params, gs, d, k, os⟩ (topStub p) = some r.abs := by
    have := runT_spec hr
    unfold SharedT.abs at this
    rw [tree w] at this
    exact this
  have t : topFrom treeTable p w N ⟨H₀ w.params, gs, d, k, os⟩ = some r.abs := by
    unfold topFrom
    dsimp only
    rw [z1, z2, z3, hr']
    show (match staticsOk (importedModules p.main.body) (H₀ w.params) r.abs.heap && namesBound p r.abs.heap && gensDone r.abs && laidKept (H₀ w.params) r.abs.heap with | true => _ | false => _) = _
    rw [l1]
  unfold openEnds
  rw [e]
  show (topFrom treeTable p w N _).map _ = _
  rw [t]
  exact congrArg some (Prod.ext l2 l3)
noncomputable def bootT (P : Params) : BT := treeGo (boot_heap P).objs.toList 0 .nil
theorem bootSize : ∀ w : World, ((boot_heap w.params).isNs mainGlobals && (Array.mk [] : Array GenState).size == 0, (boot_heap w.params).objs.size, (boot_heap w.params).nsMap mainGlobals "__annotations__") = (true, 11, some (.ref 6)) := fun w => by kernel_rfl
theorem bootTree : ∀ w : World, absHeap (bootT w.params) 11 {} = boot_heap w.params := fun w => by kernel_rfl
def qv : Program := view PySem.Challenge.pw_og0085_02 [0, 2, 3, 5, 6, 7, 8, 9, 10, 11, 12, 13, 15, 16, 17, 18, 19, 20, 21, 22, 23, 24, 25, 26]
local macro_rules | `(tactic| o_head $H) => `(tactic| (
   refine holds_open (q := qv) (loose := [PySem.Str.ofString "LedgerError"]) (Xt := fun s => xlAt qv [] s && recOk (RowW.records (OpenRow.toRowW (OpenLaw.row PySem.Challenge.rw_og0085_02))) s) (XP := XL qv []) (Yf := Hook.obs $H) (Ya := Hook.val $H) (YP := Hook.says $H) (N := 4202) ?hl (Hook.of $H) (Hook.keeps $H) (fun s e => xl_of s (Bool.and_eq_true_iff.mp e).1) XL.keeps (by rfl) (by rfl) (by rfl) (fun s e => recFacts_of (Bool.and_eq_true_iff.mp e).2) (by rfl) (by assumption) (by decide +kernel) ⟨rfl, rfl, rfl, rfl, rfl, by decide +kernel⟩ ?hw ?hc
   (case hl => (refine left_of_tree (T₀ := bootT) (life := {}) (boot_open (p := PySem.Challenge.pw_og0085_02) (N := 4202) (by kernel_rfl) (by decide) (fun s => by kernel_rfl)) bootSize bootTree (fun w os => ?_)
                kernel_rfl))))
local macro_rules | `(tactic| o_law) => `(tactic| refine holds_law ((congrFun PySem.W.Fast.te9446332074065402090 _).trans (by kernel_rfl)) fun said => ?_)
open_top hd for PySem.Challenge.rw_og0085_02
end Mine
end
section
open PySem PySem.W PyProof.Rows PySem.Calls PySem.Spec
set_option Elab.async false
set_option maxRecDepth 100000
namespace Mine
inductive V where
  | none
  | bool (b : Bool)
  | int (i : Int)
  | str (s : Str)
  | bytes (b : Array UInt8)
  | tup (l : List V)
  | obj (a : Addr)
  | raw (v : Value)
mutual
def RV (h : Heap) : V → Value → Prop
  | .none, v => v = .none
  | .bool b, v => v = .bool b
  | .int i, v => ∃ t, v = .int i t
  | .str s, v => ∃ t, v = .str s t
  | .bytes b, v => ∃ t, v = .bytes b t
  | .tup l, v => ∃ a vs, v = .ref a ∧ IsTup h a (List.toArray vs) ∧ RVs h l vs
  | .obj a, v => v = .ref a
  | .raw w, v => v = w
def RVs (h : Heap) : List V → List Value → Prop
  | [], vs => vs = []
  | x :: l, vs => ∃ v r, vs = v :: r ∧ RV h x v ∧ RVs h l r
end
def NT (o : Obj) : Prop := ∀ xs n, o.data = .seq xs n → o.cls ≠ .type "tuple"
def NX (o : Obj) : Prop := ∀ vs, o.data = .fields vs → ∃ n, o.cls = .type n ∧ n ≠ "traceback"
theorem NT.dict {o : Obj} {es ep} (h : o.data = .dict es ep) : NT o := fun _ _ e => by rw [h] at e; cases e
theorem NX.dict {o : Obj} {es ep} (h : o.data = .dict es ep) : NX o := fun _ e => by rw [h] at e; cases e
def TK (h h' : Heap) : Prop := ∀ a o, h.get? a = some o → o.cls = .type "tuple" → (∃ xs n, o.data = .seq xs n) → h'.get? a = some o
theorem TK.refl (h : Heap) : TK h h := fun _ _ e _ _ => e
theorem TK.trans {h₁ h₂ h₃ : Heap} (x : TK h₁ h₂) (y : TK h₂ h₃) : TK h₁ h₃ := fun a o e c d => y a o (x a o e c d) c d
theorem TK.of_keeps {h h' : Heap} (k : ∀ b o, h.get? b = some o → h'.get? b = some o) : TK h h' := fun a o e _ _ => k a o e
theorem TK.push (h : Heap) (o : Obj) : TK h (h.push o) := .of_keeps fun _ _ e => Heap.get?_push_of_some _ e
theorem TK.tup {h h' : Heap} {a : Addr} {xs : Array Value} (x : TK h h') (t : IsTup h a xs) : IsTup h' a xs :=
  let ⟨o, e, c, n, r⟩ := t; ⟨o, x a o e c ⟨_, n, r⟩, c, n, r⟩
mutual
theorem RV.mono {h h' : Heap} (k : TK h h') : ∀ (x : V) (v : Value), RV h x v → RV h' x v
  | .none, _, r => r
  | .bool _, _, r => r
  | .int _, _, r => r
  | .str _, _, r => r
  | .bytes _, _, r => r
  | .tup l, _, r => by
    obtain ⟨a, vs, rfl, t, q⟩ := r
    exact ⟨a, vs, rfl, k.tup t, RVs.mono k l vs q⟩
  | .obj _, _, r => r
  | .raw _, _, r => r
theorem RVs.mono {h h' : Heap} (k : TK h h') : ∀ (l : List V) (vs : List Value), RVs h l vs → RVs h' l vs
  | [], _, r => r
  | x :: l, _, r => by
    obtain ⟨v, r', rfl, r1, r2⟩ := r
    exact ⟨v, r', rfl, RV.mono k x v r1, RVs.mono k l r' r2⟩
end
theorem RVs.length {h : Heap} : ∀ {l : List V} {vs : List Value}, RVs h l vs → vs.length = l.length
  | [], _, r => by rw [show _ = [] from r]; rfl
  | x :: l, _, r => by obtain ⟨v, r', rfl, _, r2⟩ := r; simp [RVs.length r2]
theorem RVs.get {h : Heap} : ∀ {l : List V} {vs : List Value} {i : Nat} {x : V}, RVs h l vs → l[i]? = some x → ∃ v, vs[i]? = some v ∧ RV h x v
  | [], _, _, _, _, e => by simp at e
  | y :: l, _, 0, x, r, e => by obtain ⟨v, r', rfl, r1, _⟩ := r; simp at e; subst e; exact ⟨v, rfl, r1⟩
  | y :: l, _, i + 1, x, r, e => by obtain ⟨v, r', rfl, _, r2⟩ := r; exact RVs.get (i := i) r2 (by simpa using e)
theorem RVs.append {h : Heap} : ∀ {l l' : List V} {vs vs' : List Value}, RVs h l vs → RVs h l' vs' → RVs h (l ++ l') (vs ++ vs')
  | [], _, _, _, r, r' => by rw [show _ = [] from r]; exact r'
  | x :: l, _, _, _, r, r' => by obtain ⟨v, q, rfl, r1, r2⟩ := r; exact ⟨v, _, rfl, r1, RVs.append r2 r'⟩
theorem RVs.nil {h : Heap} : RVs h [] [] := rfl
theorem RVs.one {h : Heap} {x : V} {v : Value} (r : RV h x v) : RVs h [x] [v] := ⟨v, [], rfl, r, rfl⟩
theorem RVs.cons {h : Heap} {x : V} {v : Value} {l : List V} {vs : List Value} (r : RV h x v) (q : RVs h l vs) : RVs h (x :: l) (v :: vs) := ⟨v, vs, rfl, r, q⟩
theorem RVs.take {h : Heap} : ∀ {l : List V} {vs : List Value} (n : Nat), RVs h l vs → RVs h (l.take n) (vs.take n)
  | _, _, 0, _ => by simp [RVs]
  | [], _, n + 1, r => by rw [show _ = [] from r]; rfl
  | x :: l, _, n + 1, r => by obtain ⟨v, q, rfl, r1, r2⟩ := r; exact ⟨v, _, rfl, r1, RVs.take n r2⟩
theorem RVs.drop {h : Heap} : ∀ {l : List V} {vs : List Value} (n : Nat), RVs h l vs → RVs h (l.drop n) (vs.drop n)
  | _, _, 0, r => by simpa using r
  | [], _, n + 1, r => by rw [show _ = [] from r]; rfl
  | x :: l, _, n + 1, r => by obtain ⟨v, q, rfl, r1, r2⟩ := r; simpa using RVs.drop n r2
inductive AO where
  | list (l : List V)
  | dictS (es : List (Str × V)) (ep : Nat)
  | dictI (es : List (Int × V)) (ep : Nat)
  | inst (C d : Addr)
  | ns (fs : List (Str × V))
  | cell (v : Option V)
  | raw (o : Obj)
  | exc (C : Addr) (d : Option Addr) (fresh : Bool)
def RPairs {α : Type} (h : Heap) : List (α × V) → List (α × Value) → Prop
  | [], vs => vs = []
  | (k, x) :: l, vs => ∃ v r, vs = (k, v) :: r ∧ RV h x v ∧ RPairs h l r
def RNs (h : Heap) : List (Str × V) → List DictEntry → Prop
  | [], es => es = []
  | (k, x) :: l, es => ∃ e r t, es = e :: r ∧ e.key = .str k t ∧ RV h x e.val ∧ RNs h l r
theorem RPairs.mono {α : Type} {h h' : Heap} (k : TK h h') : ∀ {l : List (α × V)} {vs : List (α × Value)}, RPairs h l vs → RPairs h' l vs
  | [], _, r => r
  | (_, _) :: l, _, r => by obtain ⟨v, q, rfl, r1, r2⟩ := r; exact ⟨v, q, rfl, RV.mono k _ _ r1, r2.mono k⟩
theorem RNs.mono {h h' : Heap} (k : TK h h') : ∀ {l : List (Str × V)} {es : List DictEntry}, RNs h l es → RNs h' l es
  | [], _, r => r
  | (_, _) :: l, _, r => by obtain ⟨e, q, t, rfl, r0, r1, r2⟩ := r; exact ⟨e, q, t, rfl, r0, RV.mono k _ _ r1, r2.mono k⟩
def listOb (vs : List Value) (n : Nat) : Obj := { cls := .type "list", data := .seq vs.toArray n }
def PL (h : Heap) (a : Addr) (vs : List Value) : Prop := ∃ n, h.get? a = some (listOb vs n)
theorem PL.isList {h : Heap} {a : Addr} {vs : List Value} (x : PL h a vs) : h.IsList a (List.toArray vs) := let ⟨n, e⟩ := x; ⟨_, e, rfl, n, rfl⟩
theorem PL.at {h h' : Heap} {a : Addr} {vs : List Value} (x : PL h a vs) (k : ∀ o, h.get? a = some o → h'.get? a = some o) : PL h' a vs := let ⟨n, e⟩ := x; ⟨n, k _ e⟩
theorem PL.extBut {h h' : Heap} {a b : Addr} {vs : List Value} (x : PL h a vs) (hs : Heap.ExtBut b h h') (hab : a ≠ b) : PL h' a vs := let ⟨n, e⟩ := x; ⟨n, hs a _ hab e⟩
theorem PL.new (h : Heap) (vs : List Value) (n : Nat) : PL (h.push { cls := .type "list", data := .seq vs.toArray n }) h.objs.size vs := ⟨n, Heap.get?_push_size _ rfl⟩
def RO (prog : Program) (w : World) (h : Heap) (a : Addr) : AO → Prop
  | .list l => ∃ vs, PL h a vs ∧ RVs h l vs
  | .dictS es ep => (a == sysModules) = false ∧ ∃ kvs, h.DictAt (strKind prog w) a kvs ep ∧ RPairs h es kvs
  | .dictI es ep => (a == sysModules) = false ∧ ∃ kvs, h.DictAt (intKind prog w) a kvs ep ∧ RPairs h es kvs
  | .inst C d => h.get? a = some (instObj C d)
  | .ns fs => ∃ es n, h.get? a = some (dictOf es n) ∧ RNs h fs es
  | .cell v => ∃ x, h.IsCell a x ∧ match v with | some X => ∃ y, x = some y ∧ RV h X y | none => x = none
  | .raw o => h.get? a = some o
  | .exc C d fr => ∃ vs sl, h.get? a = some { cls := .ref C, dict := d, data := .fields vs, slots := sl } ∧ 1 < vs.size ∧ (fr = true → vs[1]? = some .none)
abbrev Store := Addr → Option AO
def upd (σ : Store) (a : Addr) (o : AO) : Store := fun b => if b = a then some o else σ b
@[simp] theorem upd_self (σ : Store) (a : Addr) (o : AO) : upd σ a o a = some o := by simp [upd]
theorem upd_ne (σ : Store) {a b : Addr} (o : AO) (h : b ≠ a) : upd σ a o b = σ b := by simp [upd, h]
structure Cx where
  prog : Program
  w : World
  KP : Params → Frag
  H : Heap
  p : Program
  loose : List Str
  mean : ExcName → Option Value
  mg : Str → Option Value
  mb : Str → Option Value
  os : OsState
abbrev Cx.K (C : Cx) : Frag := C.KP C.w.params
abbrev Cx.M (C : Cx) : Model := model C.prog C.w
structure Cx.Ok (C : Cx) : Prop where
  X : C.K.In C.H
  T : Top C.p C.loose C.mean C.mg C.mb C.H
abbrev Gh := Addr → Option Obj
def SE (o o' : Obj) : Prop := o' = o ∨ ((∃ es ep, o.data = .dict es ep) ∧ ∃ sl, o' = { o with slots := sl })
theorem SE.data {o o' : Obj} (x : SE o o') : o'.data = o.data := by
  rcases x with rfl | ⟨_, sl, rfl⟩ <;> rfl
theorem SE.cls {o o' : Obj} (x : SE o o') : o'.cls = o.cls := by
  rcases x with rfl | ⟨_, sl, rfl⟩ <;> rfl
theorem SE.slots {o o' : Obj} (x : SE o o') (h : ∃ es ep, o.data = .dict es ep) (sl : Array (Option Value)) : SE o { o' with slots := sl } := by
  rcases x with rfl | ⟨_, sl', rfl⟩
  · exact .inr ⟨h, sl, rfl⟩
  · exact .inr ⟨h, sl, rfl⟩
theorem SE.eq {o o' : Obj} {vs} (x : SE o o') (h : o.data = .fields vs) : o' = o := x.resolve_right fun q => by obtain ⟨⟨es, ep, q⟩, _⟩ := q; rw [h] at q; cases q
theorem SE.eqs {o o' : Obj} {vs n} (x : SE o o') (h : o.data = .seq vs n) : o' = o := x.resolve_right fun q => by obtain ⟨⟨es, ep, q⟩, _⟩ := q; rw [h] at q; cases q
structure St (C : Cx) (g : Gh) (σ : Store) (s : Shared) : Prop where
  base : ∀ b o, C.H.get? b = some o → s.heap.get? b = some o
  gs : ∀ b o, g b = some o → ∃ o', s.heap.get? b = some o' ∧ SE o o'
  gt : ∀ b o, g b = some o → NX o ∧ NT o
  sim : ∀ a o, σ a = some o → RO C.prog C.w s.heap a o
  gσ : ∀ a, σ a ≠ none → g a = none
  hσ : ∀ a, σ a ≠ none → C.H.get? a = none
  gh : ∀ a, g a ≠ none → C.H.get? a = none
  gens : s.gens = #[]
  os : s.os = C.os
theorem RO.mono_of {prog : Program} {w : World} {h h' : Heap} {a : Addr} (k : TK h h') (ka : h'.get? a = h.get? a) : ∀ {o : AO}, RO prog w h a o → RO prog w h' a o
  | .list l, ⟨vs, ⟨n, e⟩, q⟩ => ⟨vs, ⟨n, ka.trans e⟩, q.mono k⟩
  | .dictS es _, ⟨z, vs, ⟨o, es', e, r⟩, q⟩ => ⟨z, vs, ⟨o, es', ka.trans e, r⟩, q.mono k⟩
  | .dictI es _, ⟨z, vs, ⟨o, es', e, r⟩, q⟩ => ⟨z, vs, ⟨o, es', ka.trans e, r⟩, q.mono k⟩
  | .inst _ _, e => ka.trans e
  | .ns fs, ⟨es, n, e, q⟩ => ⟨es, n, ka.trans e, q.mono k⟩
  | .cell v, ⟨x, ⟨o, e, r⟩, q⟩ => ⟨x, ⟨o, ka.trans e, r⟩, by
      cases v with
      | none => exact q
      | some X => obtain ⟨y, e1, e2⟩ := q; exact ⟨y, e1, RV.mono k _ _ e2⟩⟩
  | .raw _, e => ka.trans e
  | .exc _ _ _, ⟨vs, sl, e, r⟩ => ⟨vs, sl, ka.trans e, r⟩
theorem RO.there {prog : Program} {w : World} {h : Heap} {a : Addr} {o : AO} (r : RO prog w h a o) : ∃ ob, h.get? a = some ob := by
  cases o with
  | list l => obtain ⟨_, ⟨_, e⟩, _⟩ := r; exact ⟨_, e⟩
  | dictS es ep => obtain ⟨_, _, ⟨o, _, e, _⟩, _⟩ := r; exact ⟨o, e⟩
  | dictI es ep => obtain ⟨_, _, ⟨o, _, e, _⟩, _⟩ := r; exact ⟨o, e⟩
  | inst C d => exact ⟨_, r⟩
  | ns fs => obtain ⟨_, _, e, _⟩ := r; exact ⟨_, e⟩
  | cell v => obtain ⟨_, ⟨o, e, _⟩, _⟩ := r; exact ⟨o, e⟩
  | raw o => exact ⟨_, r⟩
  | exc C d fr => obtain ⟨_, _, e, _⟩ := r; exact ⟨_, e⟩
section
variable {C : Cx} {g : Gh} {σ σ' : Store} {s s' : Shared}
theorem St.lt (S : St C g σ s) {a : Addr} {o : AO} (e : σ a = some o) : a < s.heap.objs.size := by
  obtain ⟨ob, q⟩ := (S.sim a o e).there
  exact Heap.lt_size q
theorem St.tok (S : St C g σ s) (e1 : s'.heap = s.heap) (e2 : s'.gens = s.gens) (e3 : s'.os = s.os) : St C g σ s' := by
  obtain ⟨a, b, c, d, e, f, i, j, k⟩ := S
  exact ⟨by rw [e1]; exact a, by rw [e1]; exact b, c, by rw [e1]; exact d, e, f, i, e2.trans j, e3.trans k⟩
theorem St.weaken (S : St C g σ s) (h : ∀ a o, σ' a = some o → σ a = some o) : St C g σ' s where
  base := S.base
  gs := S.gs
  gt := S.gt
  sim := fun a o e => S.sim a o (h a o e)
  gσ := fun a e => S.gσ a fun q => by
    cases r : σ' a with
    | none => exact e r
    | some o => rw [h a o r] at q; cases q
  hσ := fun a e => S.hσ a fun q => by
    cases r : σ' a with
    | none => exact e r
    | some o => rw [h a o r] at q; cases q
  gh := S.gh
  gens := S.gens
  os := S.os
theorem St.K (S : St C g σ s) (O : C.Ok) : C.K.In s.heap := O.X.keeps S.base
theorem St.top (S : St C g σ s) (O : C.Ok) : Top C.p C.loose C.mean C.mg C.mb s.heap := O.T.keeps S.base
theorem St.push (S : St C g σ s) (o : Obj) (tk : Nat) : St C g σ { s with heap := s.heap.push o, toks := tk } where
  base := fun b x e => Heap.get?_push_of_some _ (S.base b x e)
  gs := fun b x e => let ⟨o', q, z⟩ := S.gs b x e; ⟨o', Heap.get?_push_of_some _ q, z⟩
  gt := S.gt
  sim := fun a x e => by
    obtain ⟨ob, q⟩ := (S.sim a x e).there
    exact (S.sim a x e).mono_of (TK.push _ _) ((Heap.get?_push_of_some _ q).trans q.symm)
  gσ := S.gσ
  hσ := S.hσ
  gh := S.gh
  gens := S.gens
  os := S.os
theorem St.grow (S : St C g σ s) {h' : Heap} (tk : Nat) (k : ∀ b o, s.heap.get? b = some o → h'.get? b = some o) : St C g σ { s with heap := h', toks := tk } where
  base := fun b x e => k _ _ (S.base b x e)
  gs := fun b x e => let ⟨o', q, z⟩ := S.gs b x e; ⟨o', k _ _ q, z⟩
  gt := S.gt
  sim := fun a x e => by
    obtain ⟨ob, q⟩ := (S.sim a x e).there
    exact (S.sim a x e).mono_of (TK.of_keeps k) ((k _ _ q).trans q.symm)
  gσ := S.gσ
  hσ := S.hσ
  gh := S.gh
  gens := S.gens
  os := S.os
theorem St.fresh (S : St C g σ s) {a : Addr} (ha : s.heap.objs.size ≤ a) : σ a = none ∧ g a = none ∧ C.H.get? a = none := by
  refine ⟨?_, ?_, ?_⟩
  · cases q : σ a with
    | none => rfl
    | some o => exact absurd (S.lt q) (Nat.not_lt.mpr ha)
  · cases q : g a with
    | none => rfl
    | some o => obtain ⟨o', e, _⟩ := S.gs a o q; exact absurd (Heap.lt_size e) (Nat.not_lt.mpr ha)
  · cases q : C.H.get? a with
    | none => rfl
    | some o => exact absurd (Heap.lt_size (S.base a o q)) (Nat.not_lt.mpr ha)
theorem St.add (S : St C g σ s) {a : Addr} {o : AO} (hg : g a = none) (hH : C.H.get? a = none) (h : RO C.prog C.w s.heap a o) : St C g (upd σ a o) s where
  base := S.base
  gs := S.gs
  gt := S.gt
  sim := fun b x e => by
    by_cases hb : b = a
    · subst hb; rw [upd_self] at e; cases e; exact h
    · rw [upd_ne _ _ hb] at e; exact S.sim b x e
  gσ := fun b e => by
    by_cases hb : b = a
    · subst hb; exact hg
    · rw [upd_ne _ _ hb] at e; exact S.gσ b e
  hσ := fun b e => by
    by_cases hb : b = a
    · subst hb; exact hH
    · rw [upd_ne _ _ hb] at e; exact S.hσ b e
  gh := S.gh
  gens := S.gens
  os := S.os
def drop (σ : Store) (a : Addr) : Store := fun b => if b = a then none else σ b
theorem drop_ne (σ : Store) {a b : Addr} (h : b ≠ a) : drop σ a b = σ b := by simp [drop, h]
theorem St.turn (S : St C g σ s) {a : Addr} {o : Obj} {h' : Heap} (tk : Nat) (hs : Heap.SameBut a s.heap h') (hg : g a = none) (hH : C.H.get? a = none)
    (ho : s.heap.get? a = some o) (ht : NT o) : St C g (drop σ a) { s with heap := h', toks := tk } ∧ TK s.heap h' := by
  have k : TK s.heap h' := fun b x e c ⟨xs, n, d⟩ => (hs.2 b fun q => by subst q; rw [ho] at e; cases e; exact ht xs n d c).trans e
  refine ⟨⟨fun b x e => (hs.2 b fun q => by subst q; rw [hH] at e; cases e).trans (S.base b x e),
    fun b x e => let ⟨o', q, z⟩ := S.gs b x e; ⟨o', (hs.2 b fun q => by subst q; rw [hg] at e; cases e).trans q, z⟩, S.gt, fun b x e => ?_, fun b e => ?_, fun b e => ?_, S.gh, S.gens, S.os⟩, k⟩
  · by_cases hb : b = a
    · subst hb; simp [drop] at e
    · rw [drop_ne _ hb] at e; exact (S.sim b x e).mono_of k (hs.2 b hb)
  · by_cases hb : b = a
    · subst hb; simp [drop] at e
    · rw [drop_ne _ hb] at e; exact S.gσ b e
  · by_cases hb : b = a
    · subst hb; simp [drop] at e
    · rw [drop_ne _ hb] at e; exact S.hσ b e
theorem upd_drop (σ : Store) (a : Addr) (o : AO) : upd (drop σ a) a o = upd σ a o := by
  funext b; by_cases hb : b = a <;> simp [upd, drop, hb]
theorem St.set (S : St C g σ s) {a : Addr} {o : Obj} {h' : Heap} {x : AO} (tk : Nat) (hs : Heap.SameBut a s.heap h') (hg : g a = none) (hH : C.H.get? a = none)
    (ho : s.heap.get? a = some o) (ht : NT o) (hx : TK s.heap h' → RO C.prog C.w h' a x) : St C g (upd σ a x) { s with heap := h', toks := tk } ∧ TK s.heap h' := by
  obtain ⟨S', k⟩ := S.turn tk hs hg hH ho ht
  exact ⟨upd_drop σ a x ▸ S'.add hg hH (hx k), k⟩
def gadd (g : Gh) (a : Addr) (o : Obj) : Gh := fun b => if b = a then some o else g b
theorem St.ghost (S : St C g σ s) {a : Addr} {o : Obj} (hσ : σ a = none) (hH : C.H.get? a = none) (ho : s.heap.get? a = some o) (hc : NX o ∧ NT o) : St C (gadd g a o) σ s where
  base := S.base
  gs := fun b x e => by
    by_cases hb : b = a
    · subst hb; simp [gadd] at e; subst e; exact ⟨o, ho, .inl rfl⟩
    · simp [gadd, hb] at e; exact S.gs b x e
  gt := fun b x e => by
    by_cases hb : b = a
    · subst hb; simp [gadd] at e; subst e; exact hc
    · simp [gadd, hb] at e; exact S.gt b x e
  sim := S.sim
  gσ := fun b e => by
    by_cases hb : b = a
    · subst hb; exact absurd hσ e
    · simp [gadd, hb]; exact S.gσ b e
  hσ := S.hσ
  gh := fun b e => by
    by_cases hb : b = a
    · subst hb; exact hH
    · simp [gadd, hb] at e; exact S.gh b e
  gens := S.gens
  os := S.os
theorem St.ghostLess {g' : Gh} (S : St C g' σ s) (h : ∀ b o, g b = some o → g' b = some o) : St C g σ s where
  base := S.base
  gs := fun b o e => S.gs b o (h b o e)
  gt := fun b o e => S.gt b o (h b o e)
  sim := S.sim
  gσ := fun a e => by
    cases q : g a with
    | none => rfl
    | some o => have := S.gσ a e; rw [h a o q] at this; cases this
  hσ := S.hσ
  gh := fun a e => S.gh a fun q => by
    cases r : g a with
    | none => exact e r
    | some o => rw [h a o r] at q; cases q
  gens := S.gens
  os := S.os
end
end Mine
end
section
open PySem PySem.W PyProof.Rows PySem.Calls PySem.Spec
set_option Elab.async false
set_option maxRecDepth 100000
namespace Mine
abbrev Loc := List (Str × V)
inductive FrOk (C : Cx) (g : Gh) (en : Option Env) (e : Env) : Prop
  | mk (k1 : e.scope.kind ≠ .module) (F : Addr) (k2 : e.frame = some F) (k3 : C.H.get? F = none) (k4 : en.map (·.locals) = some F ∨ ∃ o, g F = some o ∧ ∃ es ep, o.data = .dict es ep)
inductive FrsOk (C : Cx) (g : Gh) (en : Option Env) (fr : Option (List Env)) : Prop
  | mk (outer : List Env) (e1 : fr = some outer) (e2 : ∀ e ∈ outer, FrOk C g en e) (e3 : ∀ env, en = some env → (env.frame = some env.locals → ∃ r, outer = env :: r) ∧ ∃ e ∈ outer, e.frame = env.frame)
structure AOk (C : Cx) (n : Nat) (g : Gh) (en : Option Env) (A : Around) : Prop where
  handled : A.handled = none ∨ n = 0
  depth : A.depth + 10 * n < 1000
  units : A.units + 100 * n < 9000
  frames : FrsOk C g en A.frames
theorem AOk.room {C : Cx} {n : Nat} {g : Gh} {L : Option Env} {A : Around} (x : AOk C n g L A) : A.depth < recursionLimit := by
  have := x.depth; show A.depth < 1000; omega
theorem AOk.urm {C : Cx} {n : Nat} {g : Gh} {L : Option Env} {A : Around} (x : AOk C n g L A) : A.units < cLine := by
  have := x.units; show A.units < 9900; omega
theorem AOk.hn {C : Cx} {n : Nat} {g : Gh} {L : Option Env} {A : Around} (x : AOk C (n + 1) g L A) : A.handled = none := x.handled.resolve_right (by omega)
theorem AOk.gadd {C : Cx} {n : Nat} {g : Gh} {L : Option Env} {A : Around} {a : Addr} {o : Obj} (x : AOk C n g L A) (h : g a = Option.none) : AOk C n (gadd g a o) L A :=
  ⟨x.handled, x.depth, x.units, let ⟨outer, e, k, z⟩ := x.frames; ⟨outer, e, fun en hen => let ⟨k1, F, k2, k3, k4⟩ := k en hen; ⟨k1, F, k2, k3, k4.imp id fun ⟨o', q, r⟩ => ⟨o', by
    have : F ≠ a := fun z => by rw [z, h] at q; cases q
    simp [Mine.gadd, this, q], r⟩⟩, z⟩⟩
structure Frm (C : Cx) (g : Gh) (env : Env) (ε : Loc) (σ : Store) (s : Shared) : Prop where
  gL : g env.locals = none
  hL : C.H.get? env.locals = none
  σL : σ env.locals = none
  ns : ∃ m, s.heap.Ns env.locals m ∧ ∀ x V, ε.lookup x = some V → ∃ v, m x = some v ∧ RV s.heap V v
structure Hd (C : Cx) (g : Gh) (env : Env) (ε : Loc) (σ : Store) (s : Shared) : Prop where
  S : St C g σ s
  F : Frm C g env ε σ s
structure AX where
  C : Addr
  d : Addr
inductive TBn (C : Cx) (σ : Store) (h : Heap) (L : Option Addr) (a : Addr) (vs : Array Value) : Prop
  | mk (T : Addr) (oT : Obj) (ts : Array Value) (h1 : vs[1]? = some (.ref T)) (h2 : T ≠ a) (h3 : C.H.get? T = none) (h4 : σ T = none) (h5 : L ≠ some T) (h6 : h.get? T = some oT) (h7 : oT.cls = .type "traceback") (h8 : oT.data = .fields ts) (h9 : 3 < ts.size)
def TB (C : Cx) (g : Gh) (σ : Store) (h : Heap) (L : Option Addr) (a : Addr) (vs : Array Value) (noted : Bool) : Prop :=
  (noted = false ∧ vs[1]? = some .none) ∨ TBn C σ h L a vs
inductive RXc (C : Cx) (g : Gh) (σ : Store) (h : Heap) (L : Option Addr) (e : Value) (x : AX) (noted : Bool) : Prop
  | mk (a : Addr) (oe : Obj) (vs : Array Value) (e1 : e = .ref a) (e2 : C.H.get? a = none) (e3 : σ a = none) (e4 : g a = none) (e5 : L ≠ some a) (e6 : h.get? a = some oe) (e7 : oe.cls = .ref x.C) (e8 : oe.dict = some x.d) (e9 : oe.data = .fields vs) (e10 : 1 < vs.size) (e11 : TB C g σ h L a vs noted)
structure RX (C : Cx) (g : Gh) (σ : Store) (h : Heap) (L : Option Addr) (e : Value) (x : AX) (noted : Bool) : Prop where
  ex : RXc C g σ h L e x noted
inductive Post (C : Cx) (g : Gh) (env : Env) (ε : Loc) (s : Shared) (Q : V → Store → Prop) (v : Value) (s' : Shared) : Prop
  | mk (x : V) (σ' : Store) (D : Hd C g env ε σ' s') (k : TK s.heap s'.heap) (r : RV s'.heap x v) (q : Q x σ')
inductive PostX (C : Cx) (g : Gh) (env : Env) (s : Shared) (X : AX → Store → Prop) (e : Value) (s' : Shared) : Prop
  | mk (ax : AX) (σ' : Store) (ε' : Loc) (b : Bool) (D : Hd C g env ε' σ' s') (k : TK s.heap s'.heap) (r : RX C g σ' s'.heap (some env.locals) e ax b) (q : X ax σ')
inductive PostC (C : Cx) (g : Gh) (s : Shared) (Q : V → Store → Prop) (v : Value) (s' : Shared) : Prop
  | mk (x : V) (σ' : Store) (S : St C g σ' s') (k : TK s.heap s'.heap) (r : RV s'.heap x v) (q : Q x σ')
inductive PostCX (C : Cx) (g : Gh) (s : Shared) (X : AX → Store → Prop) (e : Value) (s' : Shared) : Prop
  | mk (ax : AX) (σ' : Store) (b : Bool) (S : St C g σ' s') (k : TK s.heap s'.heap) (r : RX C g σ' s'.heap none e ax b) (q : X ax σ')
def RC (C : Cx) (g : Gh) (s : Shared) (Q : V → Store → Prop) (X : AX → Store → Prop) (r : Result) (s' : Shared) : Prop := match r with
  | .ok (.ret v) => PostC C g s Q v s'
  | .ok _ => False
  | .error e => PostCX C g s X e s'
inductive Fl where
  | next | brk | cont
  | ret (v : V)
def RFl (h : Heap) : Fl → Flow → Prop
  | .next, f => f = .next
  | .brk, f => f = .brk
  | .cont, f => f = .cont
  | .ret x, f => ∃ v, f = .ret v ∧ RV h x v
inductive PostS (C : Cx) (g : Gh) (env : Env) (s : Shared) (Q : Fl → Loc → Store → Prop) (f : Flow) (s' : Shared) : Prop
  | mk (x : Fl) (ε' : Loc) (σ' : Store) (D : Hd C g env ε' σ' s') (k : TK s.heap s'.heap) (r : RFl s'.heap x f) (q : Q x ε' σ')
inductive PostB (C : Cx) (g : Gh) (env : Env) (ε : Loc) (s : Shared) (Q : Bool → Store → Prop) (b : Bool) (s' : Shared) : Prop
  | mk (σ' : Store) (D : Hd C g env ε σ' s') (k : TK s.heap s'.heap) (q : Q b σ')
inductive PostL (C : Cx) (g : Gh) (env : Env) (ε : Loc) (s : Shared) (Q : List V → Store → Prop) (vs : List Value) (s' : Shared) : Prop
  | mk (xs : List V) (σ' : Store) (D : Hd C g env ε σ' s') (k : TK s.heap s'.heap) (r : RVs s'.heap xs vs) (q : Q xs σ')
inductive PostA (C : Cx) (g : Gh) (env : Env) (s : Shared) (Q : Loc → Store → Prop) (s' : Shared) : Prop
  | mk (ε' : Loc) (σ' : Store) (D : Hd C g env ε' σ' s') (k : TK s.heap s'.heap) (q : Q ε' σ')
def TV (C : Cx) (n : Nat) (env : Env) (ε : Loc) (t : Sem Value) (σ : Store) (Q : V → Store → Prop) (X : AX → Store → Prop) : Prop :=
  ∀ A g s, AOk C n g (some env) A → Hd C g env ε σ s → wpAny C.M A t (Post C g env ε s Q) (PostX C g env s X) s
abbrev EV (C : Cx) (n : Nat) (env : Env) (ε : Loc) (e : Expr) (σ : Store) (Q : V → Store → Prop) (X : AX → Store → Prop) : Prop := TV C n env ε (eval e env) σ Q X
def TT (C : Cx) (n : Nat) (env : Env) (ε : Loc) (t : Sem Bool) (σ : Store) (Q : Bool → Store → Prop) (X : AX → Store → Prop) : Prop :=
  ∀ A g s, AOk C n g (some env) A → Hd C g env ε σ s → wpAny C.M A t (PostB C g env ε s Q) (PostX C g env s X) s
def TS (C : Cx) (n : Nat) (env : Env) (ε : Loc) (t : Sem Flow) (σ : Store) (Q : Fl → Loc → Store → Prop) (X : AX → Store → Prop) : Prop :=
  ∀ A g s, AOk C n g (some env) A → Hd C g env ε σ s → wpAny C.M A t (PostS C g env s Q) (PostX C g env s X) s
def CALL (C : Cx) (n : Nat) (f : Value) (args : List V) (σ : Store) (Q : V → Store → Prop) (X : AX → Store → Prop) : Prop :=
  ∀ A g s vs, AOk C n g none A → St C g σ s → RVs s.heap args vs → codeAny C.M A (.call f ⟨vs, []⟩) (RC C g s Q X) s
section
variable {C : Cx} {g : Gh} {σ σ' : Store} {s s' : Shared} {env : Env} {ε : Loc} {n : Nat} {A : Around}
theorem Frm.tok (F : Frm C g env ε σ s) (e : s'.heap = s.heap) : Frm C g env ε σ s' := by
  obtain ⟨a, b, c, f⟩ := F
  exact ⟨a, b, c, by rw [e]; exact f⟩
theorem Hd.tok (D : Hd C g env ε σ s) (e1 : s'.heap = s.heap) (e2 : s'.gens = s.gens) (e3 : s'.os = s.os) : Hd C g env ε σ s' := ⟨D.S.tok e1 e2 e3, D.F.tok e1⟩
theorem Hd.tk (D : Hd C g env ε σ s) (t : Nat) : Hd C g env ε σ { s with toks := t } := D.tok rfl rfl rfl
theorem Frm.weaken (F : Frm C g env ε σ s) (h : ∀ a o, σ' a = some o → σ a = some o) : Frm C g env ε σ' s :=
  ⟨F.gL, F.hL, by
    cases q : σ' env.locals with
    | none => rfl
    | some o => rw [← F.σL]; exact (h _ _ q).symm, F.ns⟩
theorem Hd.weaken (D : Hd C g env ε σ s) (h : ∀ a o, σ' a = some o → σ a = some o) : Hd C g env ε σ' s := ⟨D.S.weaken h, D.F.weaken h⟩
theorem Frm.keeps {h' : Heap} (F : Frm C g env ε σ s) (k : ∀ o, s.heap.get? env.locals = some o → h'.get? env.locals = some o) (t : TK s.heap h') (e : s'.heap = h') (hσ : σ' env.locals = none) : Frm C g env ε σ' s' := by
  subst e
  obtain ⟨m, ⟨o', es, ep, q', r'⟩, z⟩ := F.ns
  exact ⟨F.gL, F.hL, hσ, m, ⟨o', es, ep, k _ q', r'⟩, fun x V hx => let ⟨v, a, b⟩ := z x V hx; ⟨v, a, RV.mono t _ _ b⟩⟩
theorem Hd.push (D : Hd C g env ε σ s) (o : Obj) (tk : Nat) : Hd C g env ε σ { s with heap := s.heap.push o, toks := tk } :=
  ⟨D.S.push o tk, D.F.keeps (h' := s.heap.push o) (fun _ e => Heap.get?_push_of_some _ e) (TK.push _ _) rfl D.F.σL⟩
theorem Hd.local_lt (D : Hd C g env ε σ s) : env.locals < s.heap.objs.size := let ⟨_, h, _⟩ := D.F.ns; h.lt
theorem Hd.fresh (D : Hd C g env ε σ s) {a : Addr} (ha : s.heap.objs.size ≤ a) : σ a = none ∧ g a = none ∧ C.H.get? a = none ∧ a ≠ env.locals :=
  let ⟨x, y, z⟩ := D.S.fresh ha; ⟨x, y, z, fun q => absurd D.local_lt (Nat.not_lt.mpr (q ▸ ha))⟩
theorem Hd.add (D : Hd C g env ε σ s) {a : Addr} {o : AO} (hg : g a = none) (hH : C.H.get? a = none) (hL : a ≠ env.locals) (h : RO C.prog C.w s.heap a o) : Hd C g env ε (upd σ a o) s :=
  ⟨D.S.add hg hH h, ⟨D.F.gL, D.F.hL, by rw [upd_ne _ _ (Ne.symm hL)]; exact D.F.σL, D.F.ns⟩⟩
theorem Hd.alloc (D : Hd C g env ε σ s) (o : Obj) (tk : Nat) {x : AO} (h : RO C.prog C.w (s.heap.push o) s.heap.objs.size x) :
    σ s.heap.objs.size = none ∧ Hd C g env ε (upd σ s.heap.objs.size x) { s with heap := s.heap.push o, toks := tk } ∧ TK s.heap (s.heap.push o) := by
  obtain ⟨f1, f2, f3, f4⟩ := D.fresh (Nat.le_refl _)
  exact ⟨f1, (D.push o tk).add f2 f3 f4 h, TK.push _ _⟩
theorem Hd.set (D : Hd C g env ε σ s) {a : Addr} {x₀ : AO} {o : Obj} {h' : Heap} {x : AO} (tk : Nat) (hx₀ : σ a = some x₀) (hs : Heap.SameBut a s.heap h')
    (ho : s.heap.get? a = some o) (ht : NT o) (hx : TK s.heap h' → RO C.prog C.w h' a x) : Hd C g env ε (upd σ a x) { s with heap := h', toks := tk } ∧ TK s.heap h' := by
  have hg : g a = none := D.S.gσ a (by rw [hx₀]; exact nofun)
  have hH : C.H.get? a = none := D.S.hσ a (by rw [hx₀]; exact nofun)
  have hL : env.locals ≠ a := fun q => by have := D.F.σL; rw [q, hx₀] at this; cases this
  obtain ⟨S', k⟩ := D.S.set tk hs hg hH ho ht hx
  exact ⟨⟨S', D.F.keeps (h' := h') (fun o e => (hs.2 _ hL).trans e) k rfl (by rw [upd_ne _ _ hL]; exact D.F.σL)⟩, k⟩
theorem Hd.other (D : Hd C g env ε σ s) {a : Addr} {o : Obj} {h' : Heap} (tk : Nat) (hx₀ : σ a = none) (hg : g a = none) (hH : C.H.get? a = none) (hL : a ≠ env.locals) (hs : Heap.SameBut a s.heap h')
    (ho : s.heap.get? a = some o) (ht : NT o) : Hd C g env ε σ { s with heap := h', toks := tk } ∧ TK s.heap h' := by
  obtain ⟨S', k⟩ := D.S.turn tk hs hg hH ho ht
  have e : drop σ a = σ := by
    funext b; by_cases hb : b = a
    · subst hb; simp [drop, hx₀]
    · simp [drop, hb]
  rw [e] at S'
  exact ⟨⟨S', D.F.keeps (h' := h') (fun o e => (hs.2 _ (Ne.symm hL)).trans e) k rfl D.F.σL⟩, k⟩
theorem Hd.store (D : Hd C g env ε σ s) {h' : Heap} {x : Str} {y : V} {v : Value} {m : Str → Option Value} (tk : Nat)
    (hm : s.heap.Ns env.locals m) (hn : h'.Ns env.locals (fun z => if z = x then some v else m z)) (hs : Heap.SameBut env.locals s.heap h') (hv : RV s.heap y v)
    (he : ∀ z V, ε.lookup z = some V → ∃ v, m z = some v ∧ RV s.heap V v) :
    Hd C g env ((x, y) :: ε) σ { s with heap := h', toks := tk } ∧ TK s.heap h' := by
  obtain ⟨o, es, ep, q, r1, _⟩ := hm
  obtain ⟨S', k⟩ := D.S.turn tk hs D.F.gL D.F.hL q (NT.dict r1)
  have e : drop σ env.locals = σ := by
    funext b; by_cases hb : b = env.locals
    · subst hb; simp [drop, D.F.σL]
    · simp [drop, hb]
  rw [e] at S'
  refine ⟨⟨S', D.F.gL, D.F.hL, D.F.σL, _, hn, fun z V hz => ?_⟩, k⟩
  rw [List.lookup_cons] at hz
  by_cases hzx : z = x
  · subst hzx
    simp at hz; subst hz
    exact ⟨v, by simp, RV.mono k _ _ hv⟩
  · have hb : (z == x) = false := by simpa using hzx
    simp only [hb] at hz
    obtain ⟨w, a, b⟩ := he z V hz
    exact ⟨w, by simp [hzx, a], RV.mono k _ _ b⟩
theorem TV.mono {t : Sem Value} {Q Q' : V → Store → Prop} {X X' : AX → Store → Prop} (h : TV C n env ε t σ Q X) (hQ : ∀ v σ, Q v σ → Q' v σ) (hX : ∀ x σ, X x σ → X' x σ) : TV C n env ε t σ Q' X' :=
  fun A g s a d => wpAny_mono (h A g s a d) (fun _ _ ⟨x, σ', p, q, r, z⟩ => ⟨x, σ', p, q, r, hQ _ _ z⟩) fun _ _ ⟨x, σ', e, b, p, q, r, z⟩ => ⟨x, σ', e, b, p, q, r, hX _ _ z⟩
theorem TS.mono {t : Sem Flow} {Q Q' : Fl → Loc → Store → Prop} {X X' : AX → Store → Prop} (h : TS C n env ε t σ Q X) (hQ : ∀ v ε σ, Q v ε σ → Q' v ε σ) (hX : ∀ x σ, X x σ → X' x σ) : TS C n env ε t σ Q' X' :=
  fun A g s a d => wpAny_mono (h A g s a d) (fun _ _ ⟨x, ε', σ', p, q, r, z⟩ => ⟨x, ε', σ', p, q, r, hQ _ _ _ z⟩) fun _ _ ⟨x, σ', e, b, p, q, r, z⟩ => ⟨x, σ', e, b, p, q, r, hX _ _ z⟩
theorem TT.mono {t : Sem Bool} {Q Q' : Bool → Store → Prop} {X X' : AX → Store → Prop} (h : TT C n env ε t σ Q X) (hQ : ∀ v σ, Q v σ → Q' v σ) (hX : ∀ x σ, X x σ → X' x σ) : TT C n env ε t σ Q' X' :=
  fun A g s a d => wpAny_mono (h A g s a d) (fun _ _ ⟨σ', p, q, z⟩ => ⟨σ', p, q, hQ _ _ z⟩) fun _ _ ⟨x, σ', e, b, p, q, r, z⟩ => ⟨x, σ', e, b, p, q, r, hX _ _ z⟩
theorem CALL.mono {f : Value} {args : List V} {Q Q' : V → Store → Prop} {X X' : AX → Store → Prop} (h : CALL C n f args σ Q X) (hQ : ∀ v σ, Q v σ → Q' v σ) (hX : ∀ x σ, X x σ → X' x σ) : CALL C n f args σ Q' X' :=
  fun A g s vs a d r => codeAny_mono (h A g s vs a d r) fun r s' z => by
    rcases r with e | (_ | _ | _ | v)
    · obtain ⟨x, σ', b, p, q, r, z⟩ := z; exact ⟨x, σ', b, p, q, r, hX _ _ z⟩
    · exact z
    · exact z
    · exact z
    · obtain ⟨x, σ', p, q, r, z⟩ := z; exact ⟨x, σ', p, q, r, hQ _ _ z⟩
theorem PostX.trans {X : AX → Store → Prop} {e : Value} {s₀ s₁ s₂ : Shared} (k : TK s₀.heap s₁.heap) (h : PostX C g env s₁ X e s₂) : PostX C g env s₀ X e s₂ :=
  let ⟨x, σ', ε', b, p, q, r, z⟩ := h; ⟨x, σ', ε', b, p, k.trans q, r, z⟩
theorem Post.trans {Q : V → Store → Prop} {v : Value} {s₀ s₁ s₂ : Shared} (k : TK s₀.heap s₁.heap) (h : Post C g env ε s₁ Q v s₂) : Post C g env ε s₀ Q v s₂ :=
  let ⟨x, σ', p, q, r, z⟩ := h; ⟨x, σ', p, k.trans q, r, z⟩
theorem PostB.trans {Q : Bool → Store → Prop} {v : Bool} {s₀ s₁ s₂ : Shared} (k : TK s₀.heap s₁.heap) (h : PostB C g env ε s₁ Q v s₂) : PostB C g env ε s₀ Q v s₂ :=
  let ⟨σ', p, q, r⟩ := h; ⟨σ', p, k.trans q, r⟩
theorem PostS.trans {Q : Fl → Loc → Store → Prop} {v : Flow} {s₀ s₁ s₂ : Shared} (k : TK s₀.heap s₁.heap) (h : PostS C g env s₁ Q v s₂) : PostS C g env s₀ Q v s₂ :=
  let ⟨x, ε', σ', p, q, r, z⟩ := h; ⟨x, ε', σ', p, k.trans q, r, z⟩
theorem TV.use {t : Sem Value} {Q : V → Store → Prop} {X : AX → Store → Prop} (h : TV C n env ε t σ Q X) (a : AOk C n g (some env) A) (D : Hd C g env ε σ s) {Q' : Value → Shared → Prop} {E' : Value → Shared → Prop}
    (k : ∀ v x σ' s', Hd C g env ε σ' s' → TK s.heap s'.heap → RV s'.heap x v → Q x σ' → Q' v s') (kx : ∀ e s', PostX C g env s X e s' → E' e s') : wpAny C.M A t Q' E' s :=
  wpAny_mono (h A g s a D) (fun v s' ⟨x, σ', p, q, r, z⟩ => k v x σ' s' p q r z) kx
theorem TS.use {t : Sem Flow} {Q : Fl → Loc → Store → Prop} {X : AX → Store → Prop} (h : TS C n env ε t σ Q X) (a : AOk C n g (some env) A) (D : Hd C g env ε σ s) {Q' : Flow → Shared → Prop} {E' : Value → Shared → Prop}
    (k : ∀ v x ε' σ' s', Hd C g env ε' σ' s' → TK s.heap s'.heap → RFl s'.heap x v → Q x ε' σ' → Q' v s') (kx : ∀ e s', PostX C g env s X e s' → E' e s') : wpAny C.M A t Q' E' s :=
  wpAny_mono (h A g s a D) (fun v s' ⟨x, ε', σ', p, q, r, z⟩ => k v x ε' σ' s' p q r z) kx
theorem TT.use {t : Sem Bool} {Q : Bool → Store → Prop} {X : AX → Store → Prop} (h : TT C n env ε t σ Q X) (a : AOk C n g (some env) A) (D : Hd C g env ε σ s) {Q' : Bool → Shared → Prop} {E' : Value → Shared → Prop}
    (k : ∀ b σ' s', Hd C g env ε σ' s' → TK s.heap s'.heap → Q b σ' → Q' b s') (kx : ∀ e s', PostX C g env s X e s' → E' e s') : wpAny C.M A t Q' E' s :=
  wpAny_mono (h A g s a D) (fun v s' ⟨σ', p, q, z⟩ => k v σ' s' p q z) kx
end
end Mine
end
section
open PySem PySem.W PyProof.Rows PySem.Calls PySem.Spec
set_option Elab.async false
set_option maxRecDepth 100000
set_option linter.unusedVariables false
namespace Mine
def OP1 (C : Cx) (n : Nat) (env : Env) (ε : Loc) (t : Value → Sem Value) (x : V) (σ : Store) (Q : V → Store → Prop) (X : AX → Store → Prop) : Prop :=
  ∀ A g s v, AOk C n g (some env) A → Hd C g env ε σ s → RV s.heap x v → wpAny C.M A (t v) (Post C g env ε s Q) (PostX C g env s X) s
def OP2 (C : Cx) (n : Nat) (env : Env) (ε : Loc) (t : Value → Value → Sem Value) (x y : V) (σ : Store) (Q : V → Store → Prop) (X : AX → Store → Prop) : Prop :=
  ∀ A g s v w, AOk C n g (some env) A → Hd C g env ε σ s → RV s.heap x v → RV s.heap y w → wpAny C.M A (t v w) (Post C g env ε s Q) (PostX C g env s X) s
def OPL (C : Cx) (n : Nat) (env : Env) (ε : Loc) (t : List Value → Sem Value) (xs : List V) (σ : Store) (Q : V → Store → Prop) (X : AX → Store → Prop) : Prop :=
  ∀ A g s vs, AOk C n g (some env) A → Hd C g env ε σ s → RVs s.heap xs vs → wpAny C.M A (t vs) (Post C g env ε s Q) (PostX C g env s X) s
def OPT (C : Cx) (n : Nat) (env : Env) (ε : Loc) (t : Value → Sem Bool) (x : V) (σ : Store) (Q : Bool → Store → Prop) (X : AX → Store → Prop) : Prop :=
  ∀ A g s v, AOk C n g (some env) A → Hd C g env ε σ s → RV s.heap x v → wpAny C.M A (t v) (PostB C g env ε s Q) (PostX C g env s X) s
def TL (C : Cx) (n : Nat) (env : Env) (ε : Loc) (t : Sem (List Value)) (σ : Store) (Q : List V → Store → Prop) (X : AX → Store → Prop) : Prop :=
  ∀ A g s, AOk C n g (some env) A → Hd C g env ε σ s → wpAny C.M A t (PostL C g env ε s Q) (PostX C g env s X) s
theorem rv_int {h : Heap} {i : Int} {t : Tok} : RV h (.int i) (.int i t) := ⟨t, rfl⟩
theorem rv_str {h : Heap} {i : Str} {t : Tok} : RV h (.str i) (.str i t) := ⟨t, rfl⟩
theorem rv_bytes {h : Heap} {i : Array UInt8} {t : Tok} : RV h (.bytes i) (.bytes i t) := ⟨t, rfl⟩
theorem rv_bool {h : Heap} {b : Bool} : RV h (.bool b) (.bool b) := rfl
theorem rv_none {h : Heap} : RV h .none .none := rfl
theorem rv_obj {h : Heap} {a : Addr} : RV h (.obj a) (.ref a) := rfl
theorem rv_raw {h : Heap} {v : Value} : RV h (.raw v) v := rfl
theorem rv_tup {h : Heap} {a : Addr} {l : List V} {vs : List Value} (t : IsTup h a vs.toArray) (r : RVs h l vs) : RV h (.tup l) (.ref a) := ⟨a, vs, rfl, t, r⟩
section
variable {C : Cx} {g : Gh} {σ σ' : Store} {s s' : Shared} {env : Env} {ε : Loc} {n : Nat} {A : Around} {Q : V → Store → Prop} {X : AX → Store → Prop} {QB : Bool → Store → Prop} {QS : Fl → Loc → Store → Prop}
theorem pp (D : Hd C g env ε σ s) {x : V} {v : Value} (r : RV s.heap x v) (q : Q x σ) : Post C g env ε s Q v s := ⟨x, σ, D, TK.refl _, r, q⟩
theorem ppt (D : Hd C g env ε σ s) {x : V} {v : Value} (t : Nat) (r : RV s.heap x v) (q : Q x σ) : Post C g env ε s Q v { s with toks := t } := ⟨x, σ, D.tk t, TK.refl _, r, q⟩
theorem pb (D : Hd C g env ε σ s) {b : Bool} (q : QB b σ) : PostB C g env ε s QB b s := ⟨σ, D, TK.refl _, q⟩
theorem EV_int {i k pos} (h : Q (.int i) σ) : EV C n env ε (.Constant (.int i) k pos) σ Q X := fun _ _ _ _ D => wpAny_Constant_int (ppt D _ rv_int h)
theorem EV_str {x k pos} (h : Q (.str x) σ) : EV C n env ε (.Constant (.str x) k pos) σ Q X := fun _ _ _ _ D => wpAny_Constant_str (ppt D _ rv_str h)
theorem EV_bytes {x k pos} (h : Q (.bytes x.toArray) σ) : EV C n env ε (.Constant (.bytes x) k pos) σ Q X := fun _ _ s _ D => by
  show wpAny _ _ (mkTextBytes x.toArray) _ _ _
  unfold mkTextBytes
  exact wpAny_bind (wpAny_fresh (wpAny_pure (ppt D _ rv_bytes h)))
theorem EV_bool {b k pos} (h : Q (.bool b) σ) : EV C n env ε (.Constant (.bool b) k pos) σ Q X := fun _ _ _ _ D => wpAny_Constant_bool (pp D rv_bool h)
theorem EV_none {k pos} (h : Q .none σ) : EV C n env ε (.Constant .none k pos) σ Q X := fun _ _ _ _ D => wpAny_Constant_none (pp D rv_none h)
theorem EV_local {x : Str} {pos : Pos} {y : V} (e : ε.lookup x = some y) (h : Q y σ) (hk : env.scope.kind = .function := by rfl) (hl : env.kindOf x = some .local := by rfl) (hd : (x == ("__debug__" : Str)) = false := by decide) :
    EV C n env ε (.Name x pos) σ Q X := fun A g s a D => by
  obtain ⟨m, hm, he⟩ := D.F.ns
  obtain ⟨v, h1, h2⟩ := he x y e
  exact wpAny_Name (wpAny_loadName_local hk hl hm h1 (pp D h2 h)) hd
theorem RO.cellAt {prog : Program} {w : World} {h : Heap} {a : Addr} {y : V} (r : RO prog w h a (.cell (some y))) : ∃ v, h.IsCell a (some v) ∧ RV h y v := by
  obtain ⟨x, e, z⟩ := r
  obtain ⟨v, rfl, z⟩ := z
  exact ⟨v, e, z⟩
theorem EV_cell {x : Str} {pos : Pos} {c : Addr} {y : V} (hc : env.cells.lookup x = some c) (e : σ c = some (.cell (some y))) (h : Q y σ) (hk : env.scope.kind = .function := by rfl) (hl : env.kindOf x = some .cell := by rfl) (hd : (x == ("__debug__" : Str)) = false := by decide) :
    EV C n env ε (.Name x pos) σ Q X := fun A g s a D => by
  obtain ⟨v, h1, h2⟩ := (D.S.sim c _ e).cellAt
  exact wpAny_Name (wpAny_loadName_cell hk hl hc h1 (pp D h2 h)) hd
theorem EV_free {x : Str} {pos : Pos} {c : Addr} {y : V} (hc : env.cells.lookup x = some c) (e : σ c = some (.cell (some y))) (h : Q y σ) (hk : env.scope.kind = .function := by rfl) (hl : env.kindOf x = some .free := by rfl) (hd : (x == ("__debug__" : Str)) = false := by decide)
    (hn : (x == ("__classdict__" : Str)) = false := by decide) : EV C n env ε (.Name x pos) σ Q X := fun A g s a D => by
  obtain ⟨v, h1, h2⟩ := (D.S.sim c _ e).cellAt
  exact wpAny_Name (wpAny_loadName_free hk hl hc h1 (pp D h2 h) hn) hd
theorem EV_global (O : C.Ok) {x : Str} {pos : Pos} {v : Value} {y : V} (e : nsIn C.K mainGlobals x = some (some v)) (hv : ∀ h, C.K.In h → RV h y v) (h : Q y σ) (hk : env.scope.kind = .function := by rfl) (hl : env.kindOf x = some .globalImplicit := by rfl)
    (hg : env.globals = mainGlobals := by rfl) (hd : (x == ("__debug__" : Str)) = false := by decide) : EV C n env ε (.Name x pos) σ Q X := fun A g s a D => by
  have T := D.S.top O
  have K := D.S.K O
  exact Name_function_global hk hl (loadGlobal_global (env := env) (by rw [hg]; exact T.g) (mg_of K T.g e) (pp D (hv _ K) h)) hd
theorem EV_builtin (O : C.Ok) {x : Str} {pos : Pos} {v : Value} (e : nsIn C.K mainGlobals x = some none) (hv : bootBuiltins x = some v) (h : Q (.raw v) σ) (hx : x ≠ "__name__" := by decide) (hk : env.scope.kind = .function := by rfl) (hl : env.kindOf x = some .globalImplicit := by rfl)
    (hg : env.globals = mainGlobals := by rfl) (hb : env.builtins = builtinsNs := by rfl) (hd : (x == ("__debug__" : Str)) = false := by decide) : EV C n env ε (.Name x pos) σ Q X := fun A g s a D => by
  have T := D.S.top O
  have K := D.S.K O
  exact Name_function_global hk hl (loadGlobal_builtin (env := env) (by rw [hg]; exact T.g) (mg_none_of K T.g e) (by rw [hb]; exact T.b) ((T.builtins x hx).trans hv) (pp D rv_raw h)) hd
abbrev Qo2 (C : Cx) (n : Nat) (env : Env) (ε : Loc) (t : Value → Value → Sem Value) (x : V) (Q : V → Store → Prop) (X : AX → Store → Prop) : V → Store → Prop := fun y σ₂ => OP2 C n env ε t x y σ₂ Q X
abbrev Qe2 (C : Cx) (n : Nat) (env : Env) (ε : Loc) (r : Expr) (t : Value → Value → Sem Value) (Q : V → Store → Prop) (X : AX → Store → Prop) : V → Store → Prop := fun x σ₁ => EV C n env ε r σ₁ (Qo2 C n env ε t x Q X) X
abbrev Qo1 (C : Cx) (n : Nat) (env : Env) (ε : Loc) (t : Value → Sem Value) (Q : V → Store → Prop) (X : AX → Store → Prop) : V → Store → Prop := fun x σ₁ => OP1 C n env ε t x σ₁ Q X
abbrev Qot (C : Cx) (n : Nat) (env : Env) (ε : Loc) (QB : Bool → Store → Prop) (X : AX → Store → Prop) : V → Store → Prop := fun x σ₁ => OPT C n env ε truthy x σ₁ QB X
theorem EV_BinOp {l r : Expr} {op : Operator} {pos : Pos} (h : EV C n env ε l σ (Qe2 C n env ε r (binaryOp op) Q X) X) : EV C n env ε (.BinOp l op r pos) σ Q X :=
  fun A g s a D => wpAny_BinOp (h.use a D (fun v x σ₁ s₁ D₁ k₁ r₁ h₁ => h₁.use a D₁ (fun w y σ₂ s₂ D₂ k₂ r₂ h₂ => wpAny_mono (h₂ A g s₂ v w a D₂ (RV.mono k₂ _ _ r₁) r₂) (fun _ _ z => z.trans (k₁.trans k₂)) fun _ _ z => z.trans (k₁.trans k₂))
    fun _ _ z => z.trans k₁) fun _ _ z => z)
theorem EV_IfExp {t b o : Expr} {pos : Pos} (h : TT C n env ε (isTrue t env (eval t env)) σ (fun c σ₁ => if c then EV C n env ε b σ₁ Q X else EV C n env ε o σ₁ Q X) X) : EV C n env ε (.IfExp t b o pos) σ Q X :=
  fun A g s a D => wpAny_IfExp (h.use a D (fun c σ₁ s₁ D₁ k₁ h₁ => by
    cases c with
    | true => exact wpAny_mono (h₁ A g s₁ a D₁) (fun _ _ z => z.trans k₁) fun _ _ z => z.trans k₁
    | false => exact wpAny_mono (h₁ A g s₁ a D₁) (fun _ _ z => z.trans k₁) fun _ _ z => z.trans k₁) fun _ _ z => z)
theorem EV_Compare {l r : Expr} {op : CmpOp} {pos : Pos} (h : EV C n env ε l σ (Qe2 C n env ε r (compareOp op) Q X) X) (hm : behindInMarks op r = false := by with_unfolding_all rfl) :
    EV C n env ε (.Compare l [op] [r] pos) σ Q X :=
  fun A g s a D => wpAny_Compare1 (h.use a D (fun v x σ₁ s₁ D₁ k₁ r₁ h₁ => h₁.use a D₁ (fun w y σ₂ s₂ D₂ k₂ r₂ h₂ => wpAny_mono (h₂ A g s₂ v w a D₂ (RV.mono k₂ _ _ r₁) r₂) (fun _ _ z => z.trans (k₁.trans k₂)) fun _ _ z => z.trans (k₁.trans k₂))
    fun _ _ z => z.trans k₁) fun _ _ z => z) hm
theorem TT_Compare {l r : Expr} {op : CmpOp} {pos : Pos} {w : Sem Value} (h : EV C n env ε l σ (Qe2 C n env ε r (compareOp op) (fun z σ₃ => ∃ b, z = .bool b ∧ QB b σ₃) X) X) (hm : behindInMarks op r = false := by with_unfolding_all rfl) :
    TT C n env ε (isTrue (.Compare l [op] [r] pos) env w) σ QB X :=
  fun A g s a D => wpAny_isTrue_Compare1 (h.use a D (fun v x σ₁ s₁ D₁ k₁ r₁ h₁ => h₁.use a D₁ (fun w y σ₂ s₂ D₂ k₂ r₂ h₂ => wpAny_mono (h₂ A g s₂ v w a D₂ (RV.mono k₂ _ _ r₁) r₂)
      (fun u s₃ ⟨z, σ₃, D₃, k₃, r₃, b, e, q⟩ => by
        subst e
        rw [show u = Value.bool b from r₃]
        exact wpAny_truthy_bool ⟨σ₃, D₃, (k₁.trans k₂).trans k₃, q⟩) fun _ _ z => z.trans (k₁.trans k₂))
    fun _ _ z => z.trans k₁) fun _ _ z => z) hm
theorem TT_Not {e : Expr} {pos : Pos} {w : Sem Value} (h : TT C n env ε (isTrue e env (eval e env)) σ (fun b => QB (!b)) X) : TT C n env ε (isTrue (.UnaryOp .Not e pos) env w) σ QB X :=
  fun A g s a D => wpAny_isTrue_Not (wpAny_mono (h A g s a D) (fun b s' ⟨σ', p, q, z⟩ => ⟨σ', p, q, z⟩) fun _ _ z => z)
theorem TT_value {e : Expr} {w : Sem Value} (h : TV C n env ε w σ (Qot C n env ε QB X) X) (he : isTrue e env w = (do let v ← w; standAt e.pos; holding [v] (truthy v)) := by rfl) : TT C n env ε (isTrue e env w) σ QB X :=
  fun A g s a D => wpAny_isTrue_value (h.use a D (fun v x σ₁ s₁ D₁ k₁ r₁ h₁ => wpAny_mono (h₁ A g s₁ v a D₁ r₁) (fun _ _ z => z.trans k₁) fun _ _ z => z.trans k₁) fun _ _ z => z) he
theorem TT_BoolOp {op : BoolOp} {es : List Expr} {pos : Pos} {w : Sem Value} (h : TT C n env ε (allTrue op es env) σ QB X) : TT C n env ε (isTrue (.BoolOp op es pos) env w) σ QB X :=
  fun A g s a D => wpAny_isTrue_BoolOp (h A g s a D)
theorem TT_And_nil (h : QB true σ) : TT C n env ε (allTrue .And [] env) σ QB X := fun A g s a D => wpAny_allTrue_And_nil (pb D h)
theorem TT_Or_nil (h : QB false σ) : TT C n env ε (allTrue .Or [] env) σ QB X := fun A g s a D => wpAny_allTrue_Or_nil (pb D h)
theorem TT_And {e : Expr} {es : List Expr} (h : TT C n env ε (isTrue e env (eval e env)) σ (fun b σ₁ => if b then TT C n env ε (allTrue .And es env) σ₁ QB X else QB false σ₁) X) : TT C n env ε (allTrue .And (e :: es) env) σ QB X :=
  fun A g s a D => wpAny_allTrue_And_cons (h.use a D (fun b σ₁ s₁ D₁ k₁ h₁ => by
    cases b with
    | true => exact wpAny_mono (h₁ A g s₁ a D₁) (fun _ _ z => z.trans k₁) fun _ _ z => z.trans k₁
    | false => exact ⟨σ₁, D₁, k₁, h₁⟩) fun _ _ z => z)
theorem TT_Or {e : Expr} {es : List Expr} (h : TT C n env ε (isTrue e env (eval e env)) σ (fun b σ₁ => if b then QB true σ₁ else TT C n env ε (allTrue .Or es env) σ₁ QB X) X) : TT C n env ε (allTrue .Or (e :: es) env) σ QB X :=
  fun A g s a D => wpAny_allTrue_Or_cons (h.use a D (fun b σ₁ s₁ D₁ k₁ h₁ => by
    cases b with
    | true => exact ⟨σ₁, D₁, k₁, h₁⟩
    | false => exact wpAny_mono (h₁ A g s₁ a D₁) (fun _ _ z => z.trans k₁) fun _ _ z => z.trans k₁) fun _ _ z => z)
theorem OPT_bool {b : Bool} (h : QB b σ) : OPT C n env ε truthy (.bool b) σ QB X := fun A g s v a D r => by
  rw [show v = _ from r]; exact wpAny_truthy_bool (pb D h)
end
end Mine
end
section
open PySem PySem.W PyProof.Rows PySem.Calls PySem.Spec
set_option Elab.async false
set_option maxRecDepth 100000
set_option linter.unusedVariables false
namespace Mine
section
variable {C : Cx} {g : Gh} {σ σ' : Store} {s s' : Shared} {env : Env} {ε : Loc} {n : Nat} {A : Around} {Q : V → Store → Prop} {X : AX → Store → Prop} {QB : Bool → Store → Prop} {QS : Fl → Loc → Store → Prop}
theorem Frm.obj (F : Frm C g env ε σ s) : ∃ oL es ep, s.heap.get? env.locals = some oL ∧ oL.data = .dict es ep := let ⟨_, ⟨o, es, ep, a, b, _⟩, _⟩ := F.ns; ⟨o, es, ep, a, b⟩
theorem Hd.lend (D : Hd C g env ε σ s) (a : AOk C n g (some env) A) : ∃ oL, (∃ es ep, oL.data = .dict es ep) ∧ St C (gadd g env.locals oL) σ s ∧ AOk C n (gadd g env.locals oL) none A ∧
    ∀ σ' s', St C (gadd g env.locals oL) σ' s' → TK s.heap s'.heap → Hd C g env ε σ' s' := by
  obtain ⟨m, ⟨oL, es, ep, h1, h2, h3, h4⟩, hε⟩ := D.F.ns
  refine ⟨oL, ⟨es, ep, h2⟩, D.S.ghost D.F.σL D.F.hL h1 ⟨NX.dict h2, NT.dict h2⟩, ⟨a.handled, a.depth, a.units, ?_⟩, fun σ' s' S' k => ?_⟩
  · obtain ⟨outer, e, f, _⟩ := a.frames
    refine ⟨outer, e, fun en hen => ?_, fun _ h => absurd h (Option.some_ne_none _).symm⟩
    obtain ⟨k1, F, k2, k3, k4⟩ := f en hen
    refine ⟨k1, F, k2, k3, .inr ?_⟩
    by_cases hF : F = env.locals
    · exact ⟨oL, by simp [gadd, hF], es, ep, h2⟩
    · rcases k4 with k4 | ⟨o, k4, k5⟩
      · exact absurd (Option.some.inj k4).symm hF
      · exact ⟨o, by simp [gadd, hF, k4], k5⟩
  · have gl : ∀ b o, g b = some o → gadd g env.locals oL b = some o := fun b o e => by
      have : b ≠ env.locals := fun q => by rw [q, D.F.gL] at e; cases e
      simp [gadd, this, e]
    obtain ⟨oL', q, se⟩ := S'.gs env.locals oL (by simp [gadd])
    refine ⟨S'.ghostLess gl, D.F.gL, D.F.hL, ?_, m, ⟨_, es, ep, q, se.data.trans h2, h3, h4⟩, fun x V hx => ?_⟩
    · cases r : σ' env.locals with
      | none => rfl
      | some o => have := S'.gσ env.locals (by rw [r]; exact nofun); simp [gadd] at this
    · obtain ⟨v, p1, p2⟩ := hε x V hx
      exact ⟨v, p1, RV.mono k _ _ p2⟩
theorem RX.back {h : Heap} {e : Value} {ax : AX} {b : Bool} {oL : Obj} {L : Addr} (x : RX C (gadd g L oL) σ h none e ax b) (S : St C (gadd g L oL) σ s) (hs : s.heap = h) (hd : ∃ es ep, oL.data = .dict es ep) (hg : g L = none) : RX C g σ h (some L) e ax b := by
  obtain ⟨a, oe, vs, h1, h2, h3, h4, h5, h6, h7, h8, h9, h10, h11⟩ := x.ex
  subst hs
  have haL : a ≠ L := fun q => by subst q; simp [gadd] at h4
  obtain ⟨oL', q, se⟩ := S.gs L oL (by simp [gadd])
  obtain ⟨es, ep, hd⟩ := hd
  refine ⟨a, oe, vs, h1, h2, h3, by simpa [gadd, haL] using h4, fun z => haL (Option.some.inj z).symm, h6, h7, h8, h9, h10, ?_⟩
  rcases h11 with h11 | ⟨T, oT, ts, t1, t2, t3, t4, t5, t6, t7, t8, t9⟩
  · exact .inl h11
  · refine .inr ⟨T, oT, ts, t1, t2, t3, t4, fun z => ?_, t6, t7, t8, t9⟩
    rw [Option.some.inj z, t6] at q
    cases q
    rw [se.data, hd] at t8; cases t8
theorem OPL_call {f : Value} {xs : List V} (h : CALL C n f xs σ Q X) : OPL C n env ε (fun vs => call f vs) xs σ Q X := fun A g s vs a D r => by
  obtain ⟨oL, hd, S', a', back⟩ := D.lend a
  refine wpAny_call (codeAny_mono (h A _ s vs a' S' r) fun r s' z => ?_)
  rcases r with e | (_ | _ | _ | v)
  · obtain ⟨ax, σ', b, S2, k, rx, q⟩ := z; exact ⟨ax, σ', ε, b, back σ' s' S2 k, k, rx.back S2 rfl hd D.F.gL, q⟩
  · exact z
  · exact z
  · exact z
  · obtain ⟨x, σ', S2, k, rv, q⟩ := z; exact ⟨x, σ', back σ' s' S2 k, k, rv, q⟩
theorem zip_lookup {α : Type} : ∀ {ns : List Str} {vs : List α}, ns.Nodup → ∀ x, (ns.zip vs).reverse.lookup x = (ns.zip vs).lookup x
  | [], _, _, _ => rfl
  | _ :: _, [], _, _ => rfl
  | m :: ns, v :: vs, h, x => by
    rw [List.nodup_cons] at h
    rw [List.zip_cons_cons, List.reverse_cons, List.lookup_append, zip_lookup h.2, List.lookup_cons]
    by_cases hx : x = m
    · subst hx
      have : (ns.zip vs).lookup x = none := by
        rw [List.lookup_eq_none_iff]
        intro p hp
        have := (List.of_mem_zip hp).1
        simp only [bne_iff_ne, ne_eq]
        rintro rfl
        exact h.1 this
      simp [this]
    · have hb : (x == m) = false := by simpa using hx
      simp [hb, List.lookup_cons]
theorem zip_rv {h : Heap} : ∀ {ns : List Str} {xs : List V} {vs : List Value}, RVs h xs vs → ∀ {x : Str} {y : V}, (ns.zip xs).lookup x = some y → ∃ v, (ns.zip vs).lookup x = some v ∧ RV h y v
  | [], _, _, _, _, _, e => by simp at e
  | m :: ns, [], _, _, _, _, e => by simp at e
  | m :: ns, z :: xs, _, r, x, y, e => by
    obtain ⟨v, q, rfl, r1, r2⟩ := r
    rw [List.zip_cons_cons, List.lookup_cons] at e
    rw [List.zip_cons_cons, List.lookup_cons]
    by_cases hx : x = m
    · subst hx
      simp at e; subst e
      exact ⟨v, by simp, r1⟩
    · have hb : (x == m) = false := by simpa using hx
      simp only [hb] at e ⊢
      exact zip_rv r2 e
def FnPost (Q : V → Store → Prop) : Fl → Loc → Store → Prop
  | .ret x, _, σ => Q x σ
  | .next, _, σ => Q .none σ
  | .brk, _, σ => Q .none σ
  | .cont, _, σ => Q .none σ
theorem AOk.frm (a : AOk C n g (some env) A) (S : St C g σ s) (hL : ∃ o es ep, s.heap.get? env.locals = some o ∧ o.data = .dict es ep) : ∃ outer, A.frames = some outer ∧ s.heap.FunFrames C.H outer ∧
    (∀ F ∈ outer.filterMap (·.frame), C.H.get? F = none ∧ (F = env.locals ∨ ∃ o, g F = some o ∧ ∃ es ep, o.data = .dict es ep)) ∧ (env.frame = some env.locals → ∃ r, outer = env :: r) := by
  obtain ⟨outer, e, f, hh⟩ := a.frames
  refine ⟨outer, e, ?_, fun F hF => ?_, (hh env rfl).1⟩
  · clear e hh
    induction outer with
    | nil => trivial
    | cons en r ih =>
      obtain ⟨k1, F, k2, k3, k4⟩ := f en (.head _)
      refine ⟨k1, ?_, ih fun e' he' => f e' (.tail _ he')⟩
      rcases k4 with k4 | ⟨o, k4, k5⟩
      · obtain ⟨o, es, ep, h1, h2⟩ := hL
        cases k4
        exact ⟨_, o, k2, k3, h1, fun vs q => by rw [h2] at q; cases q⟩
      · obtain ⟨o', q, se⟩ := S.gs F o k4
        exact ⟨F, _, k2, k3, q, fun vs z => by obtain ⟨es, ep, k5⟩ := k5; have := k5.symm.trans (se.data.symm.trans z); cases this⟩
  · obtain ⟨en, hen, hf⟩ := List.mem_filterMap.mp hF
    obtain ⟨k1, F', k2, k3, k4⟩ := f en hen
    rw [k2] at hf; cases hf
    exact ⟨k3, k4.imp (fun q => (Option.some.inj q).symm) id⟩
theorem St.slots (S : St C g σ s) {F : List Addr} {h' : Heap} (x : Heap.SlotsOnly F s.heap h') (hF : ∀ b ∈ F, C.H.get? b = none ∧ σ b = none ∧ (∀ o, s.heap.get? b = some o → NT o) ∧ ∀ o, g b = some o → ∃ es ep, o.data = .dict es ep) : St C g σ { s with heap := h' } ∧ TK s.heap h' := by
  have k : TK s.heap h' := fun b o e c ⟨xs, n, d⟩ => by
    by_cases hb : b ∈ F
    · exact absurd c ((hF b hb).2.2.1 o e xs n d)
    · exact (x.2.1 b hb).trans e
  refine ⟨⟨fun b o e => ?_, fun b o e => ?_, S.gt, fun b o e => ?_, S.gσ, S.hσ, S.gh, S.gens, S.os⟩, k⟩
  · have hb : b ∉ F := fun q => by rw [(hF b q).1] at e; cases e
    exact (x.2.1 b hb).trans (S.base b o e)
  · obtain ⟨o', q, se⟩ := S.gs b o e
    by_cases hb : b ∈ F
    · obtain ⟨sl', q'⟩ := x.2.2 b _ q
      exact ⟨_, q', se.slots ((hF b hb).2.2.2 o e) sl'⟩
    · exact ⟨o', (x.2.1 b hb).trans q, se⟩
  · have hb : b ∉ F := fun q => by rw [(hF b q).2.1] at e; cases e
    exact (S.sim b o e).mono_of k (x.2.1 b hb)
end
end Mine
end
section
open PySem PySem.W PyProof.Rows PySem.Calls PySem.Spec
set_option Elab.async false
set_option maxRecDepth 100000
set_option linter.unusedVariables false
namespace Mine
section
variable {C : Cx} {g : Gh} {σ σ' : Store} {s s' : Shared} {env : Env} {ε : Loc} {n : Nat} {A : Around} {Q : V → Store → Prop} {X : AX → Store → Prop} {QB : Bool → Store → Prop} {QS : Fl → Loc → Store → Prop}
theorem NT.fields {o : Obj} {vs} (h : o.data = .fields vs) : NT o := fun _ _ e => by rw [h] at e; cases e
theorem Hd.slots (D : Hd C g env ε σ s) {F : List Addr} {h' : Heap} (x : Heap.SlotsOnly F s.heap h') (hF : ∀ b ∈ F, C.H.get? b = none ∧ (b = env.locals ∨ ∃ o, g b = some o ∧ ∃ es ep, o.data = .dict es ep)) : Hd C g env ε σ { s with heap := h' } ∧ TK s.heap h' := by
  obtain ⟨S', k⟩ := D.S.slots x (fun b hb => by
    obtain ⟨h1, h2⟩ := hF b hb
    refine ⟨h1, ?_, fun o e => ?_, fun o e => ?_⟩
    · rcases h2 with rfl | ⟨o, h2, _⟩
      · exact D.F.σL
      · cases q : σ b with
        | none => rfl
        | some o' => have := D.S.gσ b (by rw [q]; exact nofun); rw [h2] at this; cases this
    · rcases h2 with rfl | ⟨o', h2, _⟩
      · obtain ⟨o', es, ep, e', d⟩ := D.F.obj
        rw [e] at e'; cases e'; exact NT.dict d
      · obtain ⟨o'', e', se⟩ := D.S.gs b o' h2
        rw [e] at e'; cases e'
        intro xs m d c
        exact (D.S.gt b o' h2).2 xs m (se.data.symm.trans d) (se.cls.symm.trans c)
    · rcases h2 with rfl | ⟨o', h2, h3⟩
      · rw [D.F.gL] at e; cases e
      · rw [h2] at e; cases e; exact h3)
  refine ⟨⟨S', D.F.gL, D.F.hL, D.F.σL, ?_⟩, k⟩
  obtain ⟨m, ⟨o, es, ep, e, d, r⟩, z⟩ := D.F.ns
  obtain ⟨sl, q⟩ := x.2.2 _ _ e
  exact ⟨m, ⟨_, es, ep, q, d, r⟩, fun x V hx => let ⟨v, a, b⟩ := z x V hx; ⟨v, a, RV.mono k _ _ b⟩⟩
theorem Hd.recd (D : Hd C g env ε σ s) {a : Addr} {o : Obj} {vs : Array Value} (f : Array Value → Array Value) (hx₀ : σ a = none) (hg : g a = none) (hH : C.H.get? a = none) (ho : s.heap.get? a = some o) (hd : o.data = .fields vs) :
    Hd C g env ε σ { s with heap := s.heap.update a (Obj.mapFields f) } ∧ TK s.heap (s.heap.update a (Obj.mapFields f)) ∧ (s.heap.update a (Obj.mapFields f)).get? a = some (o.mapFields f) ∧ a ≠ env.locals := by
  have hL : a ≠ env.locals := fun q => by
    obtain ⟨o', es, ep, e', d⟩ := D.F.obj
    rw [← q, ho] at e'; cases e'; rw [hd] at d; cases d
  obtain ⟨D', k⟩ := D.other s.toks hx₀ hg hH hL (Heap.SameBut.update ..) ho (NT.fields hd)
  exact ⟨D', k, Heap.get?_update_self _ ho (Obj.isFreed_of_fields (Obj.data_mapFields hd f)), hL⟩
theorem g_none_of (S : St C g σ s) {a : Addr} {o : Obj} {vs} (ho : s.heap.get? a = some o) (hd : o.data = .fields vs) (hc : o.cls = .type "traceback") : g a = none := by
  cases q : g a with
  | none => rfl
  | some o' =>
    obtain ⟨o'', e, se⟩ := S.gs a o' q
    rw [ho] at e; cases e
    obtain ⟨nm, c, ne⟩ := (S.gt a o' q).1 vs (se.data.symm.trans hd)
    have : o'.cls = .type "traceback" := se.cls.symm.trans hc
    rw [c] at this; injection this with this; exact absurd this ne
theorem cls_mapF {o : Obj} {f} : (o.mapFields f).cls = o.cls := Obj.cls_mapFields o f
theorem dict_mapF {o : Obj} {f} : (o.mapFields f).dict = o.dict := by
  obtain ⟨c, d, dt, sl⟩ := o; cases dt <;> rfl
theorem entry_rx {ax : AX} {a : Addr} {oe : Obj} {vs : Array Value} {head : Value} {hadNext : Bool} {QQ : Unit → Shared → Prop} {E : Value → Shared → Prop} (hA : AOk C n g (some env) A) (D : Hd C g env ε σ s) (hf : env.frame = some env.locals)
    (hH : C.H.get? a = none) (hσ : σ a = none) (hg : g a = none) (ho : s.heap.get? a = some oe) (hc : oe.cls = .ref ax.C) (hdi : oe.dict = some ax.d) (hd : oe.data = .fields vs) (hsz : 1 < vs.size)
    (h : ∀ h', Hd C g env ε σ { s with heap := h' } → TK s.heap h' → RX C g σ h' (some env.locals) (.ref a) ax true → QQ () { s with heap := h' }) :
    wpAny C.M A (do let f ← frameOf env; let pl ← entryPlaceOf env.locals hadNext; let b ← EntryCells.newEntry head f .none (rawInt env.locals) .none pl; setField (.ref a) 1 b) QQ E s := by
  obtain ⟨outer, h1, h2, h3, h4⟩ := hA.frm D.S D.F.obj
  obtain ⟨r, rfl⟩ := h4 hf
  refine wpAny_bind (wpAny_frameOf_fun h1 h2 hf fun h₁ hs₁ => ?_)
  obtain ⟨D1, k1⟩ := D.slots hs₁ h3
  refine wpAny_bind (wpAny_entryPlaceOf fun pl hpl => ?_)
  unfold EntryCells.newEntry newFields
  refine wpAny_bind (wpAny_newObj_type ?_ (hpl.sizeOk5 _ _ _ _ _))
  have hane : a ∉ (env :: r).filterMap (·.frame) := fun q => by
    obtain ⟨_, h5⟩ := h3 a q
    rcases h5 with h5 | ⟨o', h5, _⟩
    · obtain ⟨o', es, ep, e', d⟩ := D.F.obj
      rw [← h5, ho] at e'; cases e'; rw [hd] at d; cases d
    · rw [hg] at h5; cases h5
  have ho1 : h₁.get? a = some oe := (hs₁.2.1 a hane).trans ho
  generalize hT : ({ cls := .type "traceback", data := .fields ([head, .ref env.locals, .none, rawInt env.locals, .none] ++ (if pl.isEmpty then List.replicate 6 Value.none else pl)).toArray } : Obj) = oT
  have D2 := D1.push oT s.toks
  have ho2 := Heap.get?_push_of_some (h := h₁) oT ho1
  refine wpAny_setField ho2 hd hsz ?_
  have f2 := D1.fresh (Nat.le_refl _)
  have hTa : h₁.objs.size ≠ a := Nat.ne_of_gt (Heap.lt_size ho1)
  have hfr : oT.isFreed = false := by subst hT; rfl
  obtain ⟨D3, k3, ho3, _⟩ := D2.recd (·.setIfInBounds 1 (Value.ref h₁.objs.size)) hσ hg hH ho2 hd
  refine h _ D3 ((k1.trans (TK.push _ _)).trans k3) ⟨a, _, _, rfl, hH, hσ, hg, ?_, ho3, cls_mapF.trans hc, dict_mapF.trans hdi, Obj.data_mapFields hd _, by simpa using hsz, .inr ⟨h₁.objs.size, oT, _, by simp [hsz], hTa, f2.2.2.1, f2.1, fun q => f2.2.2.2 (Option.some.inj q).symm, ?_, by subst hT; rfl, by subst hT; rfl, ?_⟩⟩
  · intro q
    obtain ⟨o', es, ep, e', d⟩ := D.F.obj
    rw [Option.some.inj q, ho] at e'; cases e'; rw [hd] at d; cases d
  · exact (Heap.get?_update_other _ _ (Ne.symm hTa)).trans (Heap.get?_push_size _ hfr)
  · simp only [List.size_toArray, List.length_append, List.length_cons, List.length_nil]; omega
theorem note_rx {e : Value} {ax : AX} {b : Bool} {QQ : Unit → Shared → Prop} {E : Value → Shared → Prop} (hA : AOk C n g (some env) A) (D : Hd C g env ε σ s) (hf : env.frame = some env.locals) (x : RX C g σ s.heap (some env.locals) e ax b)
    (h : ∀ h', Hd C g env ε σ { s with heap := h' } → TK s.heap h' → RX C g σ h' (some env.locals) e ax true → QQ () { s with heap := h' }) : wpAny C.M A (noteFrame e env) QQ E s := by
  obtain ⟨a, oe, vs, rfl, hH, hσ, hg, hL, ho, hc, hdi, hd, hsz, tb⟩ := x.ex
  unfold noteFrame
  simp only [hf]
  rcases tb with ⟨_, h1⟩ | ⟨T, oT, ts, h1, t2, t3, t4, t5, t6, t7, t8, t9⟩
  · refine wpAny_bind (wpAny_field ho hd h1 ?_)
    rw [if_neg (by decide)]
    exact entry_rx hA D hf hH hσ hg ho hc hdi hd hsz h
  · refine wpAny_bind (wpAny_field ho hd h1 ?_)
    rw [if_pos (show (Value.ref T != Value.none) = true from by simp)]
    obtain ⟨y, hy⟩ : ∃ y, ts[3]? = some y := ⟨ts[3], Array.getElem?_eq_getElem t9⟩
    refine wpAny_bind (wpAny_field t6 t8 hy ?_)
    split
    · exact wpAny_pure (h s.heap D (TK.refl _) ⟨a, oe, vs, rfl, hH, hσ, hg, hL, ho, hc, hdi, hd, hsz, .inr ⟨T, oT, ts, h1, t2, t3, t4, t5, t6, t7, t8, t9⟩⟩)
    · refine wpAny_bind (wpAny_setField t6 t8 t9 ?_)
      have gT := g_none_of D.S t6 t8 t7
      obtain ⟨D1, k1, hT1, _⟩ := D.recd (·.setIfInBounds 3 Value.none) t4 gT t3 t6 t8
      have ho1 : (s.heap.update T (Obj.mapFields (·.setIfInBounds 3 Value.none))).get? a = some oe := (Heap.get?_update_other _ _ t2).trans ho
      exact entry_rx (s := { s with heap := s.heap.update T (Obj.mapFields (·.setIfInBounds 3 Value.none)) }) hA D1 hf hH hσ hg ho1 hc hdi hd hsz fun h' D' k' x' => h h' D' (k1.trans k') x'
theorem flight_rx {e : Value} {ax : AX} {fr : Option Addr} {QQ : Unit → Shared → Prop} {E : Value → Shared → Prop} (D : Hd C g env ε σ s) (x : RX C g σ s.heap (some env.locals) e ax true)
    (h : ∀ h', Hd C g env ε σ { s with heap := h' } → TK s.heap h' → RX C g σ h' (some env.locals) e ax true → QQ () { s with heap := h' }) : wpAny C.M A (setFlight e fr) QQ E s := by
  obtain ⟨a, oe, vs, rfl, hH, hσ, hg, hL, ho, hc, hdi, hd, hsz, tb⟩ := x.ex
  rcases tb with ⟨q, _⟩ | ⟨T, oT, ts, h1, t2, t3, t4, t5, t6, t7, t8, t9⟩
  · cases q
  · unfold setFlight
    refine wpAny_bind (wpAny_field ho hd h1 ?_)
    rw [if_pos (show (Value.ref T != Value.none) = true from by simp)]
    refine wpAny_setField t6 t8 t9 ?_
    have gT := g_none_of D.S t6 t8 t7
    obtain ⟨D1, k1, hT1, _⟩ := D.recd (·.setIfInBounds 3 (fr.elim Value.none fun f => rawInt f)) t4 gT t3 t6 t8
    refine h _ D1 k1 ⟨a, oe, vs, rfl, hH, hσ, hg, hL, (Heap.get?_update_other _ _ t2).trans ho, hc, hdi, hd, hsz, .inr ⟨T, _, _, h1, t2, t3, t4, t5, hT1, cls_mapF.trans t7, Obj.data_mapFields t8 _, by simpa using t9⟩⟩
theorem leaving_rx {e : Value} {ax : AX} {b : Bool} {QQ : Unit → Shared → Prop} {E : Value → Shared → Prop} (hA : AOk C n g (some env) A) (D : Hd C g env ε σ s) (hf : env.frame = some env.locals) (x : RX C g σ s.heap (some env.locals) e ax b)
    (h : ∀ h', Hd C g env ε σ { s with heap := h' } → TK s.heap h' → RX C g σ h' (some env.locals) e ax true → QQ () { s with heap := h' }) : wpAny C.M A (leaving env e) QQ E s := by
  unfold leaving
  exact wpAny_bind (note_rx hA D hf x fun h₁ D₁ k₁ x₁ => flight_rx D₁ x₁ fun h₂ D₂ k₂ x₂ => h h₂ D₂ (k₁.trans k₂) x₂)
theorem noted_rx {e : Value} {E : Value → Shared → Prop} (hA : AOk C n g (some env) A) (hf : env.frame = some env.locals) {s₀ : Shared} (x : PostX C g env s₀ X e s) (h : ∀ s', PostX C g env s₀ X e s' → (∃ ax σ' ε', Hd C g env ε' σ' s' ∧ TK s₀.heap s'.heap ∧ RX C g σ' s'.heap (some env.locals) e ax true ∧ X ax σ') → E e s') :
    notedBy C.M A env E e s := by
  obtain ⟨ax, σ', ε', b, D, k, rx, q⟩ := x
  unfold notedBy
  exact note_rx hA D hf rx fun h' D' k' rx' => h _ ⟨ax, σ', ε', true, D', k.trans k', rx', q⟩ ⟨ax, σ', ε', D', k.trans k', rx', q⟩
theorem cameBack_rx {e : Value} {E : Value → Shared → Prop} {s₀ : Shared} {ax : AX} (D : Hd C g env ε σ s) (k : TK s₀.heap s.heap) (rx : RX C g σ s.heap (some env.locals) e ax true) (q : X ax σ) (h : ∀ s', PostX C g env s₀ X e s' → E e s') :
    cameBackBy C.M A env E e s := by
  unfold cameBackBy
  have rx0 := rx
  obtain ⟨a, oe, vs, rfl, hH, hσ, hg, hL, ho, hc, hdi, hd, hsz, tb⟩ := rx.ex
  rcases tb with ⟨q, _⟩ | ⟨T, oT, ts, h1, t2, t3, t4, t5, t6, t7, t8, t9⟩
  · cases q
  · refine wpAny_bind (wpAny_field ho hd h1 ?_)
    rw [if_neg (by simp)]
    exact flight_rx D rx0 fun h' D' k' rx' => h _ ⟨ax, σ, ε, true, D', k.trans k', rx', q⟩
end
end Mine
end
section
open PySem PySem.W PyProof.Rows PySem.Calls PySem.Spec
set_option Elab.async false
set_option maxRecDepth 100000
set_option linter.unusedVariables false
namespace Mine
section
variable {C : Cx} {g : Gh} {σ σ' : Store} {s s' : Shared} {env : Env} {ε : Loc} {n : Nat} {A : Around} {Q : V → Store → Prop} {X : AX → Store → Prop} {QB : Bool → Store → Prop} {QS : Fl → Loc → Store → Prop}
theorem AOk.deep (a : AOk C (n + 1) g none A) (hf : env.frame = some env.locals) (hk : env.scope.kind = .function) (hH : C.H.get? env.locals = none) : AOk C n g (some env) (A.deeper env) := by
  obtain ⟨outer, e, f, _⟩ := a.frames
  refine ⟨.inl a.hn, by have := a.depth; show A.depth + 1 + _ < _; omega, by have := a.units; show A.units + 3 + _ < _; omega, env :: outer, by show A.frames.map _ = _; rw [e]; rfl, fun en hen => ?_, fun en hen => by cases hen; exact ⟨fun _ => ⟨outer, rfl⟩, _, .head _, rfl⟩⟩
  rcases List.mem_cons.mp hen with rfl | hen
  · exact ⟨by rw [hk]; decide, _, hf, hH, .inl rfl⟩
  · obtain ⟨k1, F, k2, k3, k4⟩ := f en hen
    exact ⟨k1, F, k2, k3, .inr (k4.resolve_left nofun)⟩
theorem RX.out {h : Heap} {e : Value} {ax : AX} {b : Bool} {L : Addr} (x : RX C g σ h (some L) e ax b) : RX C g σ h none e ax b := by
  obtain ⟨a, oe, vs, h1, h2, h3, h4, h5, h6, h7, h8, h9, h10, h11⟩ := x.ex
  exact ⟨a, oe, vs, h1, h2, h3, h4, nofun, h6, h7, h8, h9, h10, h11.imp id fun ⟨T, oT, ts, t1, t2, t3, t4, _, t6, t7, t8, t9⟩ => ⟨T, oT, ts, t1, t2, t3, t4, nofun, t6, t7, t8, t9⟩⟩
theorem leave_out {body : Sem Flow} {s₀ : Shared} (a : AOk C n g (some env) A) (hf : env.frame = some env.locals) (k₀ : TK s₀.heap s.heap) (h : wpAny C.M A body (PostS C g env s (FnPost Q)) (PostX C g env s X) s) {R : Result → Shared → Prop}
    (hR : ∀ r s', (match r with | .ok (.ret v) => PostC C g s₀ Q v s' | .ok _ => False | .error e => PostCX C g s₀ X e s') → R r s') :
    wpAny C.M A body (fun f s' => R (.ok (.ret (match f with | .ret v => v | _ => .none))) s') (fun e s' => wpAny C.M A (leaving env e) (fun _ s'' => R (.error e) s'') (fun e' s'' => R (.error e') s'') s') s := by
  refine wpAny_mono h (fun f s' ⟨x, ε', σ', D, k, rf, q⟩ => hR _ _ ?_) fun e s' ⟨ax, σ', ε', b, D, k, rx, q⟩ => leaving_rx a D hf rx fun h' D' k' rx' => hR _ _ ?_
  · cases x with
    | ret y => obtain ⟨v, rfl, rv⟩ := rf; exact ⟨y, σ', D.S, k₀.trans k, rv, q⟩
    | next => rw [show f = _ from rf]; exact ⟨.none, σ', D.S, k₀.trans k, rfl, q⟩
    | brk => rw [show f = _ from rf]; exact ⟨.none, σ', D.S, k₀.trans k, rfl, q⟩
    | cont => rw [show f = _ from rf]; exact ⟨.none, σ', D.S, k₀.trans k, rfl, q⟩
  · exact ⟨ax, σ', true, D'.S, (k₀.trans k).trans k', rx'.out, q⟩
theorem CALL_bind (O : C.Ok) {name qual : Str} {params : Arguments} {body : List Stmt} {scope : Scope} {dV kV doc pm cdv ct oc : Value} {an od : Option Addr} {osl : Array (Option Value)} {f : Addr} {names : List Str} {args all : List V}
    (ho : C.K.lookup f = some ⟨oc, od, .func (fnOf name qual params body scope dV kV doc pm an cdv ct), osl⟩) (hcd : codeIn C.K cdv qual = true)
    (hb : ∀ (s : Shared) (vs : List Value), C.K.In s.heap → RVs s.heap args vs → ∃ ws, RVs s.heap all ws ∧ BindsTo s (fnOf name qual params body scope dV kV doc pm an cdv ct) ⟨vs, []⟩ (names.zip ws)) (hn : names.Nodup)
    (hloc : ∀ y ∈ names, scope.names.lookup y = some .local)
    (h : ∀ L, TS C n (envOf qual scope L f cdv) (names.zip all) (execs body (envOf qual scope L f cdv)) σ (FnPost Q) X)
    (hco : scope.isCoroutine = false := by rfl) (hgen : scope.isGenerator = false := by rfl) (hk : scope.kind = .function := by rfl) (hcell : ∀ x ∈ scope.names, x.2 ≠ .cell := by decide) :
    CALL C (n + 1) (.ref f) args σ Q X := fun A g s vs a S r => by
  have K := S.K O
  obtain ⟨ws, rw', hbt⟩ := hb s vs K r
  refine codeAny_call_def (fd := fnOf name qual params body scope dV kV doc pm an cdv ct) (body := body) (binds := names.zip ws) a.room (K _ _ ho) rfl (S.top O).nolimit (codeRec_of K hcd) rfl hbt hcell
    (fun y hy => hloc _ (List.of_mem_zip hy).1) (fun h₁ hns hk₁ => ?_) hco hgen hk
  obtain ⟨f1, f2, f3⟩ := S.fresh (Nat.le_refl _)
  have S1 := S.grow (h' := h₁) (s.toks + (names.zip ws).length) hk₁
  have k1 : TK s.heap h₁ := .of_keeps hk₁
  have D : Hd C g (envOf qual scope s.heap.objs.size f cdv) (names.zip all) σ { s with heap := h₁, toks := s.toks + (names.zip ws).length } :=
    ⟨S1, f2, f3, f1, _, hns, fun x V hx => by
      obtain ⟨v, e1, e2⟩ := zip_rv rw' hx
      exact ⟨v, (zip_lookup hn x).trans e1, RV.mono k1 _ _ e2⟩⟩
  have a' : AOk C n g (some (envOf qual scope s.heap.objs.size f cdv)) (A.deeper (envOf qual scope s.heap.objs.size f cdv)) := a.deep rfl hk f3
  exact leave_out (s₀ := s) (R := RC C g s Q X) a' rfl k1 (h s.heap.objs.size _ g _ a' D) fun r s' q => by
    cases r with
    | error e => exact q
    | ok fl => cases fl <;> exact q
theorem CALL_def (O : C.Ok) {name qual : Str} {params : Arguments} {body : List Stmt} {scope : Scope} {dV kV doc pm cdv ct oc : Value} {an od : Option Addr} {osl : Array (Option Value)} {f : Addr} {names : List Str} {args : List V}
    (ho : C.K.lookup f = some ⟨oc, od, .func (fnOf name qual params body scope dV kV doc pm an cdv ct), osl⟩) (hcd : codeIn C.K cdv qual = true)
    (hb : ∀ vs : List Value, vs.length = args.length → bindArgs (fnOf name qual params body scope dV kV doc pm an cdv ct) ⟨vs, []⟩ = pure (names.zip vs)) (hn : names.Nodup)
    (hloc : ∀ y ∈ names, scope.names.lookup y = some .local)
    (h : ∀ L, TS C n (envOf qual scope L f cdv) (names.zip args) (execs body (envOf qual scope L f cdv)) σ (FnPost Q) X)
    (hco : scope.isCoroutine = false := by rfl) (hgen : scope.isGenerator = false := by rfl) (hk : scope.kind = .function := by rfl) (hcell : ∀ x ∈ scope.names, x.2 ≠ .cell := by decide) :
    CALL C (n + 1) (.ref f) args σ Q X :=
  CALL_bind O ho hcd (fun s vs _ r => ⟨vs, r, BindsTo.of_eq (hb vs r.length)⟩) hn hloc h hco hgen hk hcell
theorem TS_nil (h : QS .next ε σ) : TS C n env ε (execs [] env) σ QS X := fun A g s a D => wpAny_execs_nil ⟨.next, ε, σ, D, TK.refl _, rfl, h⟩
def Seq (C : Cx) (n : Nat) (env : Env) (rest : List Stmt) (QS : Fl → Loc → Store → Prop) (X : AX → Store → Prop) : Fl → Loc → Store → Prop
  | .next, ε, σ => TS C n env ε (execs rest env) σ QS X
  | f, ε, σ => QS f ε σ
theorem TS_cons {st : Stmt} {rest : List Stmt} (h : TS C n env ε (exec st env) σ (Seq C n env rest QS X) X) : TS C n env ε (execs (st :: rest) env) σ QS X := fun A g s a D =>
  wpAny_execs_cons (h.use a D (fun f x ε' σ' s' D' k rf q => by
    cases x with
    | next => rw [show f = _ from rf]; exact wpAny_mono (q A g s' a D') (fun _ _ z => z.trans k) fun _ _ z => z.trans k
    | brk => rw [show f = _ from rf]; exact ⟨.brk, ε', σ', D', k, rfl, q⟩
    | cont => rw [show f = _ from rf]; exact ⟨.cont, ε', σ', D', k, rfl, q⟩
    | ret y => obtain ⟨v, rfl, rv⟩ := rf; exact ⟨.ret y, ε', σ', D', k, ⟨v, rfl, rv⟩, q⟩) fun _ _ z => z)
abbrev Qret (ε : Loc) (QS : Fl → Loc → Store → Prop) : V → Store → Prop := fun x σ₁ => QS (.ret x) ε σ₁
theorem TS_Return {e : Expr} {pos : Pos} (h : EV C n env ε e σ (Qret ε QS) X) : TS C n env ε (exec (.Return (some e) pos) env) σ QS X := fun A g s a D =>
  wpAny_Return_some (h.use a D (fun v x σ' s' D' k r q => ⟨.ret x, ε, σ', D', k, ⟨v, rfl, r⟩, q⟩) fun _ _ z => z)
theorem TS_If {t : Expr} {b o : List Stmt} {pos : Pos} (h : TT C n env ε (isTrue t env (eval t env)) σ (fun c σ₁ => if c then TS C n env ε (execs b env) σ₁ QS X else TS C n env ε (execs o env) σ₁ QS X) X) : TS C n env ε (exec (.If t b o pos) env) σ QS X :=
  fun A g s a D => wpAny_If (h.use a D (fun c σ₁ s₁ D₁ k₁ h₁ => by
    cases c with
    | true => exact wpAny_mono (h₁ A g s₁ a D₁) (fun _ _ z => z.trans k₁) fun _ _ z => z.trans k₁
    | false => exact wpAny_mono (h₁ A g s₁ a D₁) (fun _ _ z => z.trans k₁) fun _ _ z => z.trans k₁) fun _ _ z => z)
abbrev Qexp (ε : Loc) (QS : Fl → Loc → Store → Prop) : V → Store → Prop := fun _ σ₁ => QS .next ε σ₁
theorem TS_Expr {e : Expr} {pos : Pos} (h : EV C n env ε e σ (Qexp ε QS) X) (hi : interactive env = false := by rfl) (hs : swapsWith e none pos.line env = pure false := by rfl) : TS C n env ε (exec (.Expr e pos) env) σ QS X :=
  fun A g s a D => wpAny_Expr_any (h.use a D (fun v x σ' s' D' k r q => ⟨.next, ε, σ', D', k, rfl, q⟩) fun _ _ z => z) hi hs
def SN (C : Cx) (n : Nat) (env : Env) (ε : Loc) (x : Str) (y : V) (σ : Store) (QS : Fl → Loc → Store → Prop) (X : AX → Store → Prop) : Prop :=
  ∀ A g s v, AOk C n g (some env) A → Hd C g env ε σ s → RV s.heap y v → wpAny C.M A (storeName env x v) (fun _ s' => PostS C g env s QS .next s') (PostX C g env s X) s
theorem SN_local {x : Str} {y : V} (h : QS .next ((x, y) :: ε) σ) (hl : env.kindOf x = some .local := by rfl) (hk : env.scope.kind = .function := by rfl) : SN C n env ε x y σ QS X := fun A g s v a D r => by
  obtain ⟨m, hm, he⟩ := D.F.ns
  refine wpAny_storeName_local hl hm (fun h' hn hs => ?_) (by rw [hk]; rfl)
  obtain ⟨D', k⟩ := D.store (s.toks + 1) hm hn hs r he
  exact ⟨.next, _, σ, D', k, rfl, h⟩
theorem SN_cell {x : Str} {y : V} {c : Addr} {o : Option V} (hc : env.cells.lookup x = some c) (hσ : σ c = some (.cell o)) (h : QS .next ε (upd σ c (.cell (some y)))) (hl : env.kindOf x = some .cell := by rfl) (hk : env.scope.kind = .function := by rfl) : SN C n env ε x y σ QS X := fun A g s v a D r => by
  obtain ⟨v₀, ⟨ob, ho, hd⟩, _⟩ := D.S.sim c _ hσ
  refine wpAny_storeName_cell hk hl hc ⟨ob, ho, hd⟩ fun h' hn hs => ?_
  obtain ⟨D', k⟩ := D.set (h' := h') (x := .cell (some y)) s.toks hσ hs ho (fun _ _ e => by rw [hd] at e; cases e) fun k => ⟨some v, hn, v, rfl, RV.mono k _ _ r⟩
  exact ⟨.next, ε, _, D', k, rfl, h⟩
abbrev Qsn (C : Cx) (n : Nat) (env : Env) (ε : Loc) (x : Str) (QS : Fl → Loc → Store → Prop) (X : AX → Store → Prop) : V → Store → Prop := fun y σ₁ => SN C n env ε x y σ₁ QS X
theorem TS_Assign {x : Str} {p' pos : Pos} {e : Expr} (h : EV C n env ε e σ (Qsn C n env ε x QS X) X) (hs : swapsWith e (some (.Name x p')) pos.line env = pure false := by rfl) : TS C n env ε (exec (.Assign [.Name x p'] e pos) env) σ QS X := fun A g s a D =>
  wpAny_Assign_Name (h.use a D (fun v y σ' s' D' k r q => wpAny_mono (q A g s' v a D' r) (fun _ _ z => z.trans k) fun _ _ z => z.trans k) fun _ _ z => z) hs
theorem TL_nil {pos : Pos} {QL : List V → Store → Prop} (h : QL [] σ) : TL C n env ε (spliced (backTo pos (starEach [] env))) σ QL X := fun A g s a D => wpAny_items_nil ⟨[], σ, D, TK.refl _, rfl, h⟩
abbrev Qlc (x : V) (QL : List V → Store → Prop) : List V → Store → Prop := fun xs => QL (x :: xs)
abbrev Qtl (C : Cx) (n : Nat) (env : Env) (ε : Loc) (pos : Pos) (es : List Expr) (QL : List V → Store → Prop) (X : AX → Store → Prop) : V → Store → Prop := fun x σ₁ => TL C n env ε (spliced (backTo pos (starEach es env))) σ₁ (Qlc x QL) X
theorem TL_cons {pos : Pos} {e : Expr} {es : List Expr} {QL : List V → Store → Prop} (h : EV C n env ε e σ (Qtl C n env ε pos es QL X) X)
    (he : starEach (e :: es) env = (false, eval e env) :: starEach es env := by rfl) : TL C n env ε (spliced (backTo pos (starEach (e :: es) env))) σ QL X := fun A g s a D =>
  wpAny_items_cons (h.use a D (fun v x σ₁ s₁ D₁ k₁ r₁ h₁ => wpAny_mono (h₁ A g s₁ a D₁) (fun vs s₂ ⟨xs, σ₂, D₂, k₂, r₂, q⟩ => ⟨x :: xs, σ₂, D₂, k₁.trans k₂, ⟨v, vs, rfl, RV.mono k₂ _ _ r₁, r₂⟩, q⟩) fun _ _ z => z.trans k₁) fun _ _ z => z) he
def Kp (C : Cx) (σ : Store) (f : Value) : Prop := ∀ g s, St C g σ s → ∃ k, (k = Keeper.frame ∨ k = Keeper.machine ∨ k = Keeper.boundFrame) ∧ Looks C.M s.heap (keeperOf f) k
theorem Kp_K (O : C.Ok) {f : Value} (h : keepIn C.K f = true) : Kp C σ f := fun g s S => keeps_K h s.heap (S.K O)
theorem Kp_builtin {id : String} : Kp C σ (.builtin id) := fun g s S => ⟨.machine, .inr (.inl rfl), Looks.of_pure rfl⟩
theorem Kp_type {id : String} : Kp C σ (.type id) := fun g s S => ⟨.machine, .inr (.inl rfl), Looks.of_pure rfl⟩
theorem Kp_fn {q : Addr} {oc : Value} {od : Option Addr} {fd : FuncData} {sl : Array (Option Value)} (h : σ q = some (.raw ⟨oc, od, .func fd, sl⟩)) : Kp C σ (.ref q) := fun g s S => keeps_F s.heap ⟨oc, od, fd, sl, S.sim q _ h⟩
def CW (C : Cx) (n : Nat) (env : Env) (ε : Loc) (pos : Pos) (f : Value) (fs : List V) (args : List Expr) (σ : Store) (Q : V → Store → Prop) (X : AX → Store → Prop) : Prop :=
  ∀ A g s first, AOk C n g (some env) A → Hd C g env ε σ s → RVs s.heap fs first → wpAny C.M A (callWith pos f first (backTo pos (starEach args env)) []) (Post C g env ε s Q) (PostX C g env s X) s
abbrev Qcw (C : Cx) (n : Nat) (env : Env) (ε : Loc) (f : Value) (fs : List V) (Q : V → Store → Prop) (X : AX → Store → Prop) : List V → Store → Prop := fun xs σ₁ => Kp C σ₁ f ∧ OPL C n env ε (fun vs => call f vs) (fs ++ xs) σ₁ Q X
theorem CW_cons {pos : Pos} {f : Value} {fs : List V} {e : Expr} {es : List Expr} (hl : TL C n env ε (spliced (backTo pos (starEach (e :: es) env))) σ (Qcw C n env ε f fs Q X) X)
    (he : starEach (e :: es) env = (false, eval e env) :: starEach es env := by rfl) (hp : (backTo pos (starEach es env)).any (·.1) = false := by rfl) : CW C n env ε pos f fs (e :: es) σ Q X := fun A g s first a D r => by
  have hl' := hl A g s a D
  rw [he] at hl' ⊢
  refine callWith_of (P := fun h => ∃ k, (k = Keeper.frame ∨ k = Keeper.machine ∨ k = Keeper.boundFrame) ∧ Looks C.M h (keeperOf f) k) (by show ((false || (backTo pos (starEach es env)).any (·.1)) || false) = false; rw [hp]; rfl) (fun h x => x)
    (evalArgs_plain (wpAny_mono hl' (fun vs s₁ ⟨xs, σ₁, D₁, k₁, r₁, kp, op⟩ => ⟨kp g s₁ D₁.S, ?_⟩) fun _ _ z => z))
  exact wpAny_mono (op A g s₁ (first ++ vs) a D₁ (RVs.append (RVs.mono k₁ _ _ r) r₁)) (fun _ _ z => z.trans k₁) fun _ _ z => z.trans k₁
theorem CW_nil {pos : Pos} {f : Value} {fs : List V} (kp : Kp C σ f) (op : OPL C n env ε (fun vs => call f vs) fs σ Q X) : CW C n env ε pos f fs [] σ Q X := fun A g s first a D r =>
  callWith_of (P := fun h => ∃ k, (k = Keeper.frame ∨ k = Keeper.machine ∨ k = Keeper.boundFrame) ∧ Looks C.M h (keeperOf f) k) rfl (fun h x => x) (evalArgs_nil3 ⟨kp g s D.S, by
    have := op A g s first a D r
    simpa using this⟩)
abbrev Qcall (C : Cx) (n : Nat) (env : Env) (ε : Loc) (pos : Pos) (args : List Expr) (Q : V → Store → Prop) (X : AX → Store → Prop) : V → Store → Prop := fun f σ₁ => ∃ v, (∀ h w, RV h f w → w = v) ∧ CW C n env ε pos v [] args σ₁ Q X
theorem EV_Call {fn : Expr} {args : List Expr} {pos : Pos} (h : EV C n env ε fn σ (Qcall C n env ε pos args Q X) X)
    (he : eval (.Call fn args [] pos) env = (do callWith pos (← eval fn env) [] (backTo pos (starEach args env)) []) := by rfl) : EV C n env ε (.Call fn args [] pos) σ Q X := fun A g s a D => by
  rw [he]
  refine wpAny_bind (h.use a D (fun v x σ₁ s₁ D₁ k₁ r₁ ⟨w, e, h₁⟩ => ?_) fun _ _ z => z)
  rw [e _ _ r₁]
  exact wpAny_mono (h₁ A g s₁ [] a D₁ RVs.nil) (fun _ _ z => z.trans k₁) fun _ _ z => z.trans k₁
theorem one_raw (v : Value) : ∀ h w, RV h (.raw v) w → w = v := fun _ _ r => r
theorem one_obj (a : Addr) : ∀ h w, RV h (.obj a) w → w = .ref a := fun _ _ r => r
end
end Mine
end
section
open PySem PySem.W PyProof.Rows PySem.Calls PySem.Spec
set_option Elab.async false
set_option maxRecDepth 100000
set_option linter.unusedVariables false
namespace Mine
def strLt (x y : Str) : Bool := decide (x.cps.toList < y.cps.toList)
theorem strEq_iff (x y : Str) : (x.cps.toList == y.cps.toList) = decide (x = y) := by
  by_cases h : x = y
  · subst h; simp
  · have : x.cps.toList ≠ y.cps.toList := fun q => h (by cases x; cases y; simp at q; subst q; rfl)
    have h3 : (x.cps.toList == y.cps.toList) = false := by simpa using this
    rw [h3, decide_eq_false h]
section
variable {C : Cx} {g : Gh} {σ σ' : Store} {s s' : Shared} {env : Env} {ε : Loc} {n : Nat} {A : Around} {Q : V → Store → Prop} {X : AX → Store → Prop} {QB : Bool → Store → Prop} {QS : Fl → Loc → Store → Prop}
theorem add_ii {a b : Int} (h : Q (.int (a + b)) σ) : OP2 C n env ε (binaryOp .Add) (.int a) (.int b) σ Q X := fun A g s v w hA D r r' => by
  obtain ⟨t, rfl⟩ := r; obtain ⟨u, rfl⟩ := r'; exact P.add_int (ppt D _ rv_int h)
theorem sub_ii {a b : Int} (h : Q (.int (a - b)) σ) : OP2 C n env ε (binaryOp .Sub) (.int a) (.int b) σ Q X := fun A g s v w hA D r r' => by
  obtain ⟨t, rfl⟩ := r; obtain ⟨u, rfl⟩ := r'; exact P.sub_int (ppt D _ rv_int h)
theorem mul_ii {a b : Int} (hm : IntMulOk a b) (h : Q (.int (a * b)) σ) : OP2 C n env ε (binaryOp .Mult) (.int a) (.int b) σ Q X := fun A g s v w hA D r r' => by
  obtain ⟨t, rfl⟩ := r; obtain ⟨u, rfl⟩ := r'; exact P.mul_int (ppt D _ rv_int h) hm
theorem div_ii {a b : Int} (hb : b ≠ 0) (hp : b.natAbs.log2 < 9000) (h : Q (.int (a.fdiv b)) σ) : OP2 C n env ε (binaryOp .FloorDiv) (.int a) (.int b) σ Q X := fun A g s v w hA D r r' => by
  obtain ⟨t, rfl⟩ := r; obtain ⟨u, rfl⟩ := r'; exact floordiv_int hb (ppt D _ rv_int h) (.inl (PyProof.noPylong_of_log2 hp))
theorem mod_ii {a b : Int} (hb : b ≠ 0) (h : Q (.int (a.fmod b)) σ) : OP2 C n env ε (binaryOp .Mod) (.int a) (.int b) σ Q X := fun A g s v w hA D r r' => by
  obtain ⟨t, rfl⟩ := r; obtain ⟨u, rfl⟩ := r'; exact mod_int' hb (ppt D _ rv_int h)
theorem pow_ii {a b : Int} (hb : 0 ≤ b) (hs : (Builtin.Int.intBits a : Int) * b ≤ 2 ^ 27) (h : Q (.int (a ^ b.toNat)) σ) : OP2 C n env ε (binaryOp .Pow) (.int a) (.int b) σ Q X := fun A g s v w hA D r r' => by
  obtain ⟨t, rfl⟩ := r; obtain ⟨u, rfl⟩ := r'; exact pow_int hb hs (ppt D _ rv_int h)
theorem eq_ii {a b : Int} (h : Q (.bool (a == b)) σ) : OP2 C n env ε (compareOp .Eq) (.int a) (.int b) σ Q X := fun A g s v w hA D r r' => by
  obtain ⟨t, rfl⟩ := r; obtain ⟨u, rfl⟩ := r'; exact P.eq_int (pp D rv_bool h)
theorem ne_ii {a b : Int} (h : Q (.bool (a != b)) σ) : OP2 C n env ε (compareOp .NotEq) (.int a) (.int b) σ Q X := fun A g s v w hA D r r' => by
  obtain ⟨t, rfl⟩ := r; obtain ⟨u, rfl⟩ := r'; exact P.ne_int (pp D rv_bool h)
theorem lt_ii {a b : Int} (h : Q (.bool (decide (a < b))) σ) : OP2 C n env ε (compareOp .Lt) (.int a) (.int b) σ Q X := fun A g s v w hA D r r' => by
  obtain ⟨t, rfl⟩ := r; obtain ⟨u, rfl⟩ := r'; exact P.lt_int (pp D rv_bool h)
theorem le_ii {a b : Int} (h : Q (.bool (decide (a ≤ b))) σ) : OP2 C n env ε (compareOp .LtE) (.int a) (.int b) σ Q X := fun A g s v w hA D r r' => by
  obtain ⟨t, rfl⟩ := r; obtain ⟨u, rfl⟩ := r'; exact P.le_int (pp D rv_bool h)
theorem gt_ii {a b : Int} (h : Q (.bool (decide (a > b))) σ) : OP2 C n env ε (compareOp .Gt) (.int a) (.int b) σ Q X := fun A g s v w hA D r r' => by
  obtain ⟨t, rfl⟩ := r; obtain ⟨u, rfl⟩ := r'; exact P.gt_int (pp D rv_bool h)
theorem ge_ii {a b : Int} (h : Q (.bool (decide (a ≥ b))) σ) : OP2 C n env ε (compareOp .GtE) (.int a) (.int b) σ Q X := fun A g s v w hA D r r' => by
  obtain ⟨t, rfl⟩ := r; obtain ⟨u, rfl⟩ := r'; exact P.ge_int (pp D rv_bool h)
theorem eq_ss {a b : Str} (h : Q (.bool (decide (a = b))) σ) : OP2 C n env ε (compareOp .Eq) (.str a) (.str b) σ Q X := fun A g s v w hA D r r' => by
  obtain ⟨t, rfl⟩ := r; obtain ⟨u, rfl⟩ := r'; exact P.eq_str (by rw [strEq_iff]; exact pp D rv_bool h)
theorem ne_ss {a b : Str} (h : Q (.bool (!decide (a = b))) σ) : OP2 C n env ε (compareOp .NotEq) (.str a) (.str b) σ Q X := fun A g s v w hA D r r' => by
  obtain ⟨t, rfl⟩ := r; obtain ⟨u, rfl⟩ := r'; exact P.ne_str (by rw [bne, strEq_iff]; exact pp D rv_bool h)
theorem le_ss {a b : Str} (h : Q (.bool (!strLt b a)) σ) : OP2 C n env ε (compareOp .LtE) (.str a) (.str b) σ Q X := fun A g s v w hA D r r' => by
  obtain ⟨t, rfl⟩ := r; obtain ⟨u, rfl⟩ := r'; exact P.le_str (pp D (show RV s.heap (.bool (!strLt b a)) _ from rfl) h)
theorem gt_ss {a b : Str} (h : Q (.bool (strLt b a)) σ) : OP2 C n env ε (compareOp .Gt) (.str a) (.str b) σ Q X := fun A g s v w hA D r r' => by
  obtain ⟨t, rfl⟩ := r; obtain ⟨u, rfl⟩ := r'; exact P.gt_str (pp D (show RV s.heap (.bool (strLt b a)) _ from rfl) h)
theorem isnot_none {x : V} (b : Bool) (hx : ∀ h v, RV h x v → (!(v == .none)) = b) (h : Q (.bool b) σ) : OP2 C n env ε (compareOp .IsNot) x .none σ Q X := fun A g s v w hA D r r' => by
  rw [show w = _ from r']; exact isNot_none (pp D (by rw [hx _ _ r]; exact rv_bool) h)
theorem is_none' {x : V} (b : Bool) (hx : ∀ h v, RV h x v → (v == .none) = b) (h : Q (.bool b) σ) : OP2 C n env ε (compareOp .Is) x .none σ Q X := fun A g s v w hA D r r' => by
  rw [show w = _ from r']; exact is_none (pp D (by rw [hx _ _ r]; exact rv_bool) h)
theorem add_bb {a b : Array UInt8} (hs : a.size + b.size ≤ 16777216) (h : Q (.bytes (a ++ b)) σ) : OP2 C n env ε (binaryOp .Add) (.bytes a) (.bytes b) σ Q X := fun A g s v w hA D r r' => by
  obtain ⟨t, rfl⟩ := r; obtain ⟨u, rfl⟩ := r'; exact KBy.add_bytes hs fun t' k => ppt D _ rv_bytes h
theorem str_empty {x : Str} (h : (x.length == 0) = true) : x = ⟨#[]⟩ := by
  cases x with
  | mk c => simp [Str.length] at h; simp [h]
theorem add_ss {a b : Str} (hs : a.length + b.length ≤ 16777216) (h : Q (.str (a ++ b)) σ) : OP2 C n env ε (binaryOp .Add) (.str a) (.str b) σ Q X := fun A g s v w hA D r r' => by
  obtain ⟨t, rfl⟩ := r; obtain ⟨u, rfl⟩ := r'
  refine P.add_str ?_
  by_cases h1 : (a.length == 0) = true
  · rw [if_pos h1]
    have : a ++ b = b := by
      rw [str_empty h1]; cases b
      show Str.append _ _ = _
      simp [Str.append]
    rw [this] at h
    exact pp D rv_str h
  · rw [if_neg h1]
    by_cases h2 : (b.length == 0) = true
    · rw [if_pos h2]
      have : a ++ b = a := by
        rw [str_empty h2]; cases a
        show Str.append _ _ = _
        simp [Str.append]
      rw [this] at h
      exact pp D rv_str h
    · rw [if_neg h2]
      exact ⟨by show (Str.append a b).length ≤ _; simp [Str.append, Str.length] at *; exact hs, ppt D _ rv_str h⟩
theorem len_b {b : Array UInt8} (hs : b.size ≤ 16777216) (h : Q (.int b.size) σ) : OPL C n env ε (fun vs => call (.builtin "len") vs) [.bytes b] σ Q X := fun A g s vs hA D r => by
  obtain ⟨v, r', rfl, ⟨t, rfl⟩, q⟩ := r
  rw [show r' = [] from q]
  exact len_bytes (by omega) (ppt D _ rv_int h)
theorem len_s {b : Str} (hs : b.length ≤ 16777216) (h : Q (.int b.length) σ) : OPL C n env ε (fun vs => call (.builtin "len") vs) [.str b] σ Q X := fun A g s vs hA D r => by
  obtain ⟨v, r', rfl, ⟨t, rfl⟩, q⟩ := r
  rw [show r' = [] from q]
  exact P.len_str (by omega) (ppt D _ rv_int h)
end
end Mine
end
section
open PySem PySem.W PyProof.Rows PySem.Calls PySem.Spec
set_option Elab.async false
set_option maxRecDepth 100000
set_option linter.unusedVariables false
namespace Mine
def V.plain : V → Bool
  | .raw _ => false
  | _ => true
theorem handed_of {h : Heap} {x : V} {v : Value} (r : RV h x v) (p : x.plain = true) : handedIn v = true := by
  cases x with
  | none => rw [show v = _ from r]; rfl
  | bool b => rw [show v = _ from r]; rfl
  | int i => obtain ⟨t, rfl⟩ := r; rfl
  | str i => obtain ⟨t, rfl⟩ := r; rfl
  | bytes i => obtain ⟨t, rfl⟩ := r; rfl
  | tup l => obtain ⟨a, vs, rfl, _⟩ := r; rfl
  | obj a => rw [show v = _ from r]; rfl
  | raw w => cases p
theorem RNs.get {h : Heap} : ∀ {fs : List (Str × V)} {es : List DictEntry} (x : Str), RNs h fs es → (match fs.lookup x with | some y => ∃ v, getL x es = some (some v) ∧ RV h y v | none => getL x es = some none)
  | [], es, x, r => by rw [show es = [] from r]; rfl
  | (k, y) :: fs, es, x, r => by
    obtain ⟨e, q, t, rfl, r0, r1, r2⟩ := r
    have ih := RNs.get x r2
    rw [List.lookup_cons]
    by_cases hx : x = k
    · subst hx
      simp only [beq_self_eq_true]
      refine ⟨e.val, ?_, r1⟩
      unfold getL
      rw [List.find?_cons, r0]
      simp [Value.isStr]
    · have hb : (x == k) = false := by simpa using hx
      have hk : e.key.isStr x = false := by rw [r0]; simp [Value.isStr]; exact fun q => hx q.symm
      have hr : e.refKey = false := by simp [DictEntry.refKey, r0]
      have e1 : getL x (e :: q) = getL x q := by
        unfold getL
        rw [List.find?_cons, hk, List.any_cons, hr, Bool.false_or]
      simp only [hb]
      rw [e1]
      exact ih
def putA (x : Str) (y : V) : List (Str × V) → List (Str × V)
  | [] => [(x, y)]
  | (k, z) :: fs => if k = x then (k, y) :: fs else (k, z) :: putA x y fs
theorem RNs.put {h : Heap} {x : Str} {y : V} {v : Value} {hs : Int} {t : Tok} (r : RV h y v) : ∀ {fs : List (Str × V)} {es : List DictEntry}, RNs h fs es → RNs h (putA x y fs) (putL x hs (.str x t) v es)
  | [], es, q => by rw [show es = [] from q]; exact ⟨_, _, t, rfl, rfl, r, rfl⟩
  | (k, z) :: fs, es, q => by
    obtain ⟨e, l, u, rfl, r0, r1, r2⟩ := q
    unfold putA putL
    rw [r0]
    by_cases hk : k = x
    · subst hk
      simp [Value.isStr]
      exact ⟨_, _, u, rfl, rfl, r, r2⟩
    · have : (Value.str k u).isStr x = false := by simp [Value.isStr, hk]
      rw [if_neg hk, this, if_neg (by decide)]
      exact ⟨e, _, u, rfl, r0, r1, RNs.put r r2⟩
theorem putA_length (x : Str) (y : V) : ∀ fs : List (Str × V), (putA x y fs).length ≤ fs.length + 1
  | [] => by simp [putA]
  | (k, z) :: fs => by
    unfold putA
    have := putA_length x y fs
    split
    · simp
    · simp; omega
theorem RNs.length {h : Heap} : ∀ {fs : List (Str × V)} {es : List DictEntry}, RNs h fs es → es.length = fs.length
  | [], es, r => by rw [show es = [] from r]; rfl
  | (k, y) :: fs, es, r => by obtain ⟨e, q, t, rfl, _, _, r2⟩ := r; simp [RNs.length r2]
section
variable {C : Cx} {g : Gh} {σ σ' : Store} {s s' : Shared} {env : Env} {ε : Loc} {n : Nat} {A : Around} {Q : V → Store → Prop} {X : AX → Store → Prop} {QB : Bool → Store → Prop} {QS : Fl → Loc → Store → Prop}
theorem inst_at (S : St C g σ s) {x c d : Addr} {fs : List (Str × V)} (hx : σ x = some (.inst c d)) (hd : σ d = some (.ns fs)) : ∃ es m, InstAt s.heap x (instObj c d) c (some (dictOf es m)) ∧ RNs s.heap fs es ∧ s.heap.get? d = some (dictOf es m) := by
  obtain ⟨es, m, e, r⟩ := S.sim d _ hd
  exact ⟨es, m, ⟨S.sim x _ hx, rfl, rfl, e⟩, r, e⟩
theorem EV_Attr {e : Expr} {nm : Str} {pos : Pos} (h : EV C n env ε e σ (Qo1 C n env ε (fun v => getAttr v nm true) Q X) X)
    (he : eval (.Attribute e nm pos) env = (do
      let o ← eval e env
      standAt pos.atName
      let r ← holding [o] (getAttr o nm true)
      letTemporaryGo e o r
      pure r) := by with_unfolding_all rfl) : EV C n env ε (.Attribute e nm pos) σ Q X := fun A g s a D =>
  Attribute_any_ (h.use a D (fun v x σ₁ s₁ D₁ k₁ r₁ h₁ => wpAny_mono (h₁ A g s₁ v a D₁ r₁) (fun _ _ z => z.trans k₁) fun _ _ z => z.trans k₁) fun _ _ z => z) he
theorem attr_own (O : C.Ok) {x c d : Addr} {fs : List (Str × V)} {nm : Str} {y : V} {attr : Option Value} {ex : Bool} (hx : σ x = some (.inst c d)) (hd : σ d = some (.ns fs)) (hl : fs.lookup nm = some y) (hp : y.plain = true)
    (h1 : plainGet C.K c nm = true) (h2 : hasDictIn C.K c = true) (h3 : findIn C.K (.ref c) nm = some attr) (h4 : noGet C.K attr = true) (h : Q y σ) : OP1 C n env ε (fun v => getAttr v nm ex) (.obj x) σ Q X := fun A g s v a D r => by
  rw [show v = _ from r]
  obtain ⟨es, m, I, rn, _⟩ := inst_at D.S hx hd
  have z := RNs.get nm rn
  rw [hl] at z
  obtain ⟨w, z1, z2⟩ := z
  exact get_value (D.S.K O) I (plainGet_of h1).1 (findObj_own h2 h3 h4 z1) (handed_of z2 hp) (ppt D _ z2 h)
theorem set_ns (O : C.Ok) {x c d : Addr} {fs : List (Str × V)} {nm : Str} {y : V} {v : Value} {QU : Unit → Shared → Prop} {E : Value → Shared → Prop} (D : Hd C g env ε σ s) (hx : σ x = some (.inst c d)) (hd : σ d = some (.ns fs)) (hr : RV s.heap y v) (hz : fs.length < 900)
    (h1 : findIn C.K (.ref c) "__setattr__" = some (some (.builtin "object.__setattr__"))) (h2 : plainOver C.K c = true) (h3 : takerIn C.K c nm = some none) (h4 : hasDictIn C.K c = true)
    (h : ∀ h' tk, Hd C g env ε (upd σ d (.ns (putA nm y fs))) { s with heap := h', toks := tk } → TK s.heap h' → QU () { s with heap := h', toks := tk }) : wpAny C.M A (setAttr (.ref x) nm v) QU E s := by
  obtain ⟨es, m, I, rn, ho⟩ := inst_at D.S hx hd
  have X := D.S.K O
  refine set_plain X I h1 ?_
  refine osa_open (s := { s with toks := s.toks + 1 }) X I h2 h3 fun b => ?_
  obtain ⟨cd, hc, hd'⟩ := any_some h4
  refine wpAny_bind (wpAny_pure (wpAny_bind (wpAny_bind (wpAny_loadPart I.at_ (wpAny_bind (Looks.here (s := { s with toks := s.toks + 1 }) (looks_clsIn X hc) ?_))))))
  rw [hd']
  refine wpAny_pure (a := some d) (wpAny_bind (wpAny_pure (wpAny_bind ?_)))
  unfold nsSet
  refine wpAny_bind (wpAny_bind (wpAny_askSetting (wpAny_pure (wpAny_bind (wpAny_mkText (wpAny_bind (wpAny_loadPart ho ?_)))))))
  have c0 : (!(es.toArray.any (·.key.isStr nm)) && es.toArray.any (·.refKey)) = false := by
    have : ∀ {fs : List (Str × V)} {es : List DictEntry}, RNs s.heap fs es → es.any (·.refKey) = false := by
      intro fs
      induction fs with
      | nil => intro es r; rw [show es = [] from r]; rfl
      | cons p fs ih => intro es r; obtain ⟨e, q, t, rfl, r0, _, r2⟩ := r; rw [List.any_cons, ih r2]; simp [DictEntry.refKey, r0]
    rw [List.any_toArray, List.any_toArray, this rn, Bool.and_false]
  dsimp only
  rw [aRefKeyMayBeTheName_at, c0]
  refine wpAny_updatePart ho ?_
  have hf : (Obj.putName nm (PyData.keyHash C.w.params nm) (.str nm (s.toks + 1)) v (dictOf es m)) = dictOf (putL nm (PyData.keyHash C.w.params nm) (.str nm (s.toks + 1)) v es) (putN nm es m) := putName_dict ..
  have hu := Heap.get?_update_self (h := s.heap) (Obj.putName nm (PyData.keyHash C.w.params nm) (.str nm (s.toks + 1)) v) ho (by rw [hf]; rfl)
  have rp : RNs s.heap (putA nm y fs) (putL nm (PyData.keyHash C.w.params nm) (.str nm (s.toks + 1)) v es) := RNs.put hr rn
  have hlen := putA_length nm y fs
  have hl2 := rp.length
  rw [hf] at hu
  refine wpAny_bind (wpAny_lookBehind hu (pastItsLine_dict (by rw [List.size_toArray, sizeLine_eq]; omega)) ?_)
  obtain ⟨D', k⟩ := D.set (h' := s.heap.update d _) (x := .ns (putA nm y fs)) (s.toks + 1 + 1) hd (Heap.SameBut.update ..) ho (NT.dict rfl) fun k => ⟨_, _, hu, rp.mono k⟩
  exact wpAny_pure (h _ _ D' k)
inductive SetP (C : Cx) (nm : Str) (y : V) (ε : Loc) (QS : Fl → Loc → Store → Prop) (ov : V) (σ₂ : Store) : Prop
  | mk (x c d : Addr) (fs : List (Str × V)) (e1 : ov = .obj x) (e2 : σ₂ x = some (.inst c d)) (e3 : σ₂ d = some (.ns fs)) (e4 : fs.length < 900)
      (e5 : findIn C.K (.ref c) "__setattr__" = some (some (.builtin "object.__setattr__"))) (e6 : plainOver C.K c = true) (e7 : takerIn C.K c nm = some none) (e8 : hasDictIn C.K c = true) (q : QS .next ε (upd σ₂ d (.ns (putA nm y fs))))
abbrev Qsp (C : Cx) (n : Nat) (env : Env) (ε : Loc) (o : Expr) (nm : Str) (QS : Fl → Loc → Store → Prop) (X : AX → Store → Prop) : V → Store → Prop := fun y σ₁ => EV C n env ε o σ₁ (SetP C nm y ε QS) X
theorem TS_SetAttr (O : C.Ok) {o e : Expr} {nm : Str} {p' pos : Pos} (h : EV C n env ε e σ (Qsp C n env ε o nm QS X) X)
    (hs : swapsWith e (some (.Attribute o nm p')) pos.line env = pure false := by rfl) : TS C n env ε (exec (.Assign [.Attribute o nm p'] e pos) env) σ QS X := fun A g s a D =>
  plainObj_wpAny_Assign_Attribute (h.use a D (fun v y σ₁ s₁ D₁ k₁ r₁ h₁ => h₁.use a D₁ (fun w z σ₂ s₂ D₂ k₂ r₂ ⟨x, c, d, fs, e1, e2, e3, e4, e5, e6, e7, e8, q⟩ => by
    subst e1
    rw [show w = _ from r₂]
    exact set_ns O D₂ e2 e3 (RV.mono k₂ _ _ r₁) e4 e5 e6 e7 e8 fun h' tk D' k => ⟨.next, ε, _, D', (k₁.trans k₂).trans k, rfl, q⟩) fun _ _ z => z.trans k₁) fun _ _ z => z) hs
def OPM (C : Cx) (n : Nat) (env : Env) (ε : Loc) (nm : Str) (pl : Sem Bool) (x : V) (σ : Store) (Q : Value → List V → Store → Prop) (X : AX → Store → Prop) : Prop :=
  ∀ A g s v, AOk C n g (some env) A → Hd C g env ε σ s → RV s.heap x v → wpAny C.M A (getMethod v nm pl) (fun fx s' => ∃ fs σ', Hd C g env ε σ' s' ∧ TK s.heap s'.heap ∧ RVs s'.heap fs fx.2 ∧ Q fx.1 fs σ') (PostX C g env s X) s
abbrev Qm2 (C : Cx) (n : Nat) (env : Env) (ε : Loc) (pos : Pos) (args : List Expr) (Q : V → Store → Prop) (X : AX → Store → Prop) : Value → List V → Store → Prop := fun f fs σ₂ => CW C n env ε pos f fs args σ₂ Q X
abbrev Qm1 (C : Cx) (n : Nat) (env : Env) (ε : Loc) (nm : Str) (pl : Sem Bool) (pos : Pos) (args : List Expr) (Q : V → Store → Prop) (X : AX → Store → Prop) : V → Store → Prop := fun x σ₁ => OPM C n env ε nm pl x σ₁ (Qm2 C n env ε pos args Q X) X
theorem EV_Method {o : Expr} {nm : Str} {apos pos : Pos} {args : List Expr} {pl : Sem Bool} (h : EV C n env ε o σ (Qm1 C n env ε nm pl pos args Q X) X)
    (he : eval (.Call (.Attribute o nm apos) args [] pos) env = (do
      let ov ← eval o env
      standAt apos.atName
      let (f, first) ← holding [ov] (getMethod ov nm pl)
      callWith pos f first (backTo pos (starEach args env)) []) := by rfl) : EV C n env ε (.Call (.Attribute o nm apos) args [] pos) σ Q X := fun A g s a D => by
  rw [he]
  refine wpAny_bind (h.use a D (fun v x σ₁ s₁ D₁ k₁ r₁ h₁ => wpAny_bind (wpAny_standAt (wpAny_bind (wpAny_holding (wpAny_mono (h₁ A g s₁ v a D₁ r₁) (fun fx s₂ ⟨fs, σ₂, D₂, k₂, r₂, q⟩ => ?_) fun _ _ z => z.trans k₁))))) fun _ _ z => z)
  exact wpAny_mono (q A g s₂ fx.2 a D₂ r₂) (fun _ _ z => z.trans (k₁.trans k₂)) fun _ _ z => z.trans (k₁.trans k₂)
theorem meth_inst (O : C.Ok) {x c d f : Addr} {fs : List (Str × V)} {nm : Str} {pl : Sem Bool} {QM : Value → List V → Store → Prop} (hx : σ x = some (.inst c d)) (hd : σ d = some (.ns fs)) (hl : fs.lookup nm = none)
    (h1 : plainGet C.K c nm = true) (h2 : findIn C.K (.ref c) nm = some (some (.ref f))) (h3 : isFn C.K (.ref f) = true) (h : QM (.ref f) [.obj x] σ) : OPM C n env ε nm pl (.obj x) σ QM X := fun A g s v a D r => by
  rw [show v = _ from r]
  obtain ⟨es, m, I, rn, _⟩ := inst_at D.S hx hd
  have z := RNs.get nm rn
  rw [hl] at z
  exact method_fn (D.S.K O) I (plainGet_of h1).1 (plainGet_of h1).2 h2 (beq_iff_eq.mp h3) (by show (lookIn nm (dictOf es m)).map _ = _; rw [lookIn_dict, z]; rfl) ⟨[.obj x], σ, D, TK.refl _, RVs.one rv_obj, h⟩
end
end Mine
end
section
open PySem PySem.W PyProof.Rows PySem.Calls PySem.Spec
set_option Elab.async false
set_option maxRecDepth 100000
set_option linter.unusedVariables false
namespace Mine
section
variable {C : Cx} {g : Gh} {σ σ' : Store} {s s' : Shared} {env : Env} {ε : Loc} {n : Nat} {A : Around} {Q : V → Store → Prop} {X : AX → Store → Prop} {QB : Bool → Store → Prop} {QS : Fl → Loc → Store → Prop}
theorem AOk.make {c : Addr} {vs : List Value} (a : AOk C (n + 1) g none A) : AOk C n g none (A.under (.builtin "type.__call__" ⟨.ref c :: vs, []⟩)) := by
  obtain ⟨h1, h2, h3, h4⟩ := a
  refine ⟨.inl (h1.resolve_right (by omega)), ?_, ?_, h4⟩
  · show A.depth + 1 + _ < _; omega
  · have : (A.under (.builtin "type.__call__" ⟨.ref c :: vs, []⟩)).units = A.units + (Code.builtin "type.__call__" ⟨.ref c :: vs, []⟩).cUnits := rfl
    have e : (Code.builtin "type.__call__" ⟨.ref c :: vs, []⟩).cUnits ≤ 10 := by
      exact Nat.le_of_ble_eq_true rfl
    omega
theorem CALL_make (O : C.Ok) {c fI : Addr} {args : List V} (hm : makesIn C.K c = true) (hi : findIn C.K (.ref c) "__init__" = some (some (.ref fI))) (hf : isFn C.K (.ref fI) = true)
    (h : ∀ x d, σ x = none → σ d = none → x ≠ d → CALL C n (.ref fI) (.obj x :: args) (upd (upd σ d (.ns [])) x (.inst c d)) (fun r σ' => r = .none ∧ Q (.obj x) σ') X) : CALL C (n + 1) (.ref c) args σ Q X := fun A g s vs a S r => by
  obtain ⟨hh, gs, dr, t, os⟩ := s
  have K := S.K O
  refine make_core (makes_of K hm) (looks_findIn K hi) (fun self => bind_fn K self (beq_iff_eq.mp hf)) (.inl rfl) ?_
  have f1 := S.fresh (a := hh.objs.size) (Nat.le_refl _)
  have f2 := S.fresh (a := hh.objs.size + 1) (Nat.le_succ _)
  have S1 := S.push emptyDict t
  have S2 := S1.push (instObj c hh.objs.size) t
  have e1 : (hh.push emptyDict).get? hh.objs.size = some emptyDict := Heap.get?_push_size _ rfl
  have e2 : ((hh.push emptyDict).push (instObj c hh.objs.size)).get? (hh.objs.size + 1) = some (instObj c hh.objs.size) := by
    have := Heap.get?_push_size (hh.push emptyDict) (o := instObj c hh.objs.size) rfl
    rwa [Heap.size_push] at this
  have S3 := S2.add (a := hh.objs.size) (o := .ns []) f1.2.1 f1.2.2 ⟨[], 0, Heap.get?_push_of_some _ e1, rfl⟩
  have S4 := S3.add (a := hh.objs.size + 1) (o := .inst c hh.objs.size) f2.2.1 f2.2.2 e2
  have k : TK hh ((hh.push emptyDict).push (instObj c hh.objs.size)) := (TK.push _ _).trans (TK.push _ _)
  refine codeAny_mono (h _ _ f2.1 f1.1 (Nat.succ_ne_self _) _ g _ (.ref (hh.objs.size + 1) :: vs) a.make S4 (RVs.cons rv_obj (RVs.mono k _ _ r))) fun r s' z => ?_
  rcases r with e | (_ | _ | _ | v)
  · obtain ⟨x, σ', b, p, q, r, z⟩ := z; exact ⟨x, σ', b, p, k.trans q, r, z⟩
  · exact z
  · exact z
  · exact z
  · obtain ⟨x, σ', p, q, r, rfl, z⟩ := z; exact ⟨r, .obj _, σ', p, k.trans q, rv_obj, z⟩
end
end Mine
end
section
open PySem PySem.W PyProof.Rows PySem.Calls PySem.Spec
set_option Elab.async false
set_option maxRecDepth 100000
set_option linter.unusedVariables false
namespace Mine
structure ItK (C : Cx) (it : Addr) (Inv : Store → Prop) (P : List V → Obj → Heap → Prop) : Prop where
  mono : ∀ r o h h', TK h h' → P r o h → P r o h'
  nx : ∀ r o h, P r o h → (∃ vs, o.data = .fields vs) ∧ ∃ n, o.cls = .type n ∧ n ≠ "traceback"
  step : ∀ {A : Around} {g : Gh} {σ : Store} {s : Shared} {x : V} {r : List V} {o : Obj} {QQ : Option Value → Shared → Prop} {E : Value → Shared → Prop}, A.handled = none → St C g σ s → Inv σ → s.heap.get? it = some o → P (x :: r) o s.heap →
    (∀ v s₁ h' o' tk, St C g σ s₁ → TK s.heap s₁.heap → s₁.heap.get? it = some o → s.heap.objs.size ≤ s₁.heap.objs.size → (∀ b ob, s.heap.get? b = some ob → s₁.heap.get? b = some ob) → RV h' x v → Heap.SameBut it s₁.heap h' → h'.get? it = some o' → P r o' h' → QQ (some v) { s₁ with heap := h', toks := tk }) → wpAny C.M A (pyNext (.ref it)) QQ E s
  stop : ∀ {A : Around} {g : Gh} {σ : Store} {s : Shared} {o : Obj} {QQ : Option Value → Shared → Prop} {E : Value → Shared → Prop}, A.handled = none → St C g σ s → Inv σ → s.heap.get? it = some o → P [] o s.heap →
    (∀ h' tk, Heap.ExtBut it s.heap h' → QQ none { s with heap := h', toks := tk }) → wpAny C.M A (pyNext (.ref it)) QQ E s
  self : ∀ {A : Around} {s : Shared} {r : List V} {o : Obj} {QQ : Value → Shared → Prop} {E : Value → Shared → Prop}, s.heap.get? it = some o → P r o s.heap → QQ (.ref it) s → wpAny C.M A (pyIter (.ref it)) QQ E s
  go : ∀ {A : Around} {g : Gh} {σ : Store} {s : Shared} {r : List V} {o : Obj} {target : Expr} {v : Value} {QQ : Unit → Shared → Prop} {E : Value → Shared → Prop}, St C g σ s → s.heap.get? it = some o → P r o s.heap →
    (∀ h' o', Heap.SameBut it s.heap h' → h'.get? it = some o' → P r o' h' → QQ () { s with heap := h' }) → wpAny C.M A (letOwnedTupleGo target (.ref it) v) QQ E s
def TA (C : Cx) (n : Nat) (env : Env) (ε : Loc) (t : Value → Sem Unit) (x : V) (σ : Store) (QA : Loc → Store → Prop) (X : AX → Store → Prop) : Prop :=
  ∀ A g s v, AOk C n g (some env) A → Hd C g env ε σ s → RV s.heap x v → wpAny C.M A (t v) (fun _ s' => PostA C g env s QA s') (PostX C g env s X) s
section
variable {C : Cx} {g : Gh} {σ σ' : Store} {s s' : Shared} {env : Env} {ε : Loc} {n : Nat} {A : Around} {Q : V → Store → Prop} {X : AX → Store → Prop} {QB : Bool → Store → Prop} {QS : Fl → Loc → Store → Prop} {QA : Loc → Store → Prop}
theorem TA_store {x : Str} {y : V} (h : SN C n env ε x y σ (fun _ ε' σ' => QA ε' σ') X) : TA C n env ε (storeName env x) y σ QA X := fun A g s v a D r =>
  wpAny_mono (h A g s v a D r) (fun _ s' ⟨x, ε', σ', D', k, _, q⟩ => ⟨ε', σ', D', k, q⟩) fun _ _ z => z
abbrev Qta (QA : Loc → Store → Prop) : Fl → Loc → Store → Prop := fun _ ε' σ' => QA ε' σ'
theorem TA_Name {x : Str} {p : Pos} {y : V} (h : SN C n env ε x y σ (Qta QA) X) : TA C n env ε (assign (.Name x p) env) y σ QA X := fun A g s v a D r =>
  wpAny_assign_Name (TA_store h A g s v a D r)
theorem Hd.unghost {it : Addr} {o : Obj} (D : Hd C (gadd g it o) env ε σ s) (hg : g it = none) (hL : it ≠ env.locals) : Hd C g env ε σ s := by
  refine ⟨D.S.ghostLess fun b x e => ?_, ?_, D.F.hL, D.F.σL, D.F.ns⟩
  · have : b ≠ it := fun q => by rw [q, hg] at e; cases e
    simp [gadd, this, e]
  · have := D.F.gL
    simpa [gadd, Ne.symm hL] using this
theorem Hd.toghost {it : Addr} {o : Obj} (D : Hd C g env ε σ s) (hσ : σ it = none) (hH : C.H.get? it = none) (hL : it ≠ env.locals) (ho : s.heap.get? it = some o) (hx : NX o ∧ NT o) : Hd C (gadd g it o) env ε σ s :=
  ⟨D.S.ghost hσ hH ho hx, by simp [gadd, Ne.symm hL]; exact D.F.gL, D.F.hL, D.F.σL, D.F.ns⟩
theorem PostX.unghost {it : Addr} {o : Obj} {e : Value} {s₀ : Shared} (h : PostX C (gadd g it o) env s₀ X e s) (hg : g it = none) (hL : it ≠ env.locals) : PostX C g env s₀ X e s := by
  obtain ⟨ax, σ', ε', b, D, k, rx, q⟩ := h
  refine ⟨ax, σ', ε', b, D.unghost hg hL, k, ?_, q⟩
  obtain ⟨a, oe, vs, h1, h2, h3, h4, r1, r2, r3, r4, r5, r6, r7⟩ := rx.ex
  refine ⟨a, oe, vs, h1, h2, h3, ?_, r1, r2, r3, r4, r5, r6, r7⟩
  by_cases ha : a = it
  · rw [ha]; exact hg
  · simpa [gadd, ha] using h4
theorem Hd.ext (D : Hd C g env ε σ s) {it : Addr} {o : Obj} {h' : Heap} (tk : Nat) (hσ : σ it = none) (hg : g it = none) (hH : C.H.get? it = none) (hL : it ≠ env.locals) (ho : s.heap.get? it = some o) (ht : NT o) (hs : Heap.ExtBut it s.heap h') :
    Hd C g env ε σ { s with heap := h', toks := tk } ∧ TK s.heap h' := by
  have k : TK s.heap h' := fun b x e c ⟨xs, m, d⟩ => hs b x (fun q => by subst q; rw [ho] at e; cases e; exact ht xs m d c) e
  refine ⟨⟨⟨fun b x e => hs b x (fun q => by rw [q, hH] at e; cases e) (D.S.base b x e), fun b x e => let ⟨o', q, z⟩ := D.S.gs b x e; ⟨o', hs b o' (fun q => by rw [q, hg] at e; cases e) q, z⟩, D.S.gt, fun b x e => ?_, D.S.gσ, D.S.hσ, D.S.gh, D.S.gens, D.S.os⟩,
    D.F.keeps (h' := h') (fun o e => hs _ _ (Ne.symm hL) e) k rfl D.F.σL⟩, k⟩
  obtain ⟨ob, q⟩ := (D.S.sim b x e).there
  have hb : b ≠ it := fun z => by rw [z, hσ] at e; cases e
  exact (D.S.sim b x e).mono_of k ((hs b ob hb q).trans q.symm)
def ForW (C : Cx) (n : Nat) (env : Env) (target : Expr) (body : List Stmt) (Inv : Store → Prop) (QS : Fl → Loc → Store → Prop) (X : AX → Store → Prop) : List V → Loc → Store → Prop
  | [], ε, σ => QS .next ε σ
  | x :: r, ε, σ => TA C n env ε (assign target env) x σ (fun ε₁ σ₁ => TS C n env ε₁ (execs body env) σ₁ (fun fl ε₂ σ₂ => match fl with
      | .next => Inv σ₂ ∧ ForW C n env target body Inv QS X r ε₂ σ₂
      | .cont => Inv σ₂ ∧ ForW C n env target body Inv QS X r ε₂ σ₂
      | .brk => QS .next ε₂ σ₂
      | .ret v => QS (.ret v) ε₂ σ₂) X) X
inductive ForI (C : Cx) (n : Nat) (g : Gh) (env : Env) (s : Shared) (target : Expr) (body : List Stmt) (it : Addr) (P : List V → Obj → Heap → Prop) (Inv : Store → Prop) (QS : Fl → Loc → Store → Prop) (X : AX → Store → Prop) (k : Nat) (s₁ : Shared) : Prop
  | mk (r : List V) (ε₁ : Loc) (σ₁ : Store) (o₁ : Obj) (e0 : k = r.length) (e1 : Hd C g env ε₁ σ₁ s₁) (e2 : TK s.heap s₁.heap) (e3 : s₁.heap.get? it = some o₁) (e4 : P r o₁ s₁.heap) (e5 : Inv σ₁) (e6 : σ₁ it = none) (e7 : ForW C (n + 1) env target body Inv QS X r ε₁ σ₁)
theorem for_gen {it : Addr} {P : List V → Obj → Heap → Prop} {Inv : Store → Prop} {target : Expr} {body : List Stmt} {items : List V} {o : Obj} (K : ItK C it Inv P) (hA : AOk C (n + 1) g (some env) A) (hf : env.frame = some env.locals) (D : Hd C g env ε σ s) (hi : Inv σ)
    (hσ : σ it = none) (hg : g it = none) (hH : C.H.get? it = none) (hL : it ≠ env.locals) (ho : s.heap.get? it = some o) (hP : P items o s.heap) (h : ForW C (n + 1) env target body Inv QS X items ε σ) :
    codeAny C.M A (.forLoop target (.ref it) body [] env) (fun r s' => match r with | .ok f => PostS C g env s QS f s' | .error e => cameBackBy C.M A env (PostX C g env s X) e s') s := by
  have fin : ∀ e s', PostX C g env s X e s' → notedBy C.M A env (fun e s' => cameBackBy C.M A env (PostX C g env s X) e s') e s' := fun e s' z =>
    noted_rx hA hf z fun s'' z' ⟨ax, σ', ε', D', k', rx, q⟩ => cameBack_rx D' k' rx q fun _ z => z
  refine codeAny_forLoop_any (ForI C n g env s target body it P Inv QS X) ?_ items.length
    ⟨items, ε, σ, o, rfl, D, TK.refl _, ho, hP, hi, hσ, h⟩
  rintro k s₁ ⟨r, ε₁, σ₁, o₁, rfl, D₁, k₁, ho₁, hP₁, hi₁, hσ₁, hw⟩
  have nt : ∀ {r o h}, P r o h → NX o ∧ NT o := fun p => by
    obtain ⟨⟨vs, d⟩, nm, c, ne⟩ := K.nx _ _ _ p
    exact ⟨fun _ _ => ⟨nm, c, ne⟩, NT.fields d⟩
  cases r with
  | nil =>
    refine K.stop hA.hn D₁.S hi₁ ho₁ hP₁ fun h' tk hs => ?_
    obtain ⟨D₂, k₂⟩ := D₁.ext tk hσ₁ hg hH hL ho₁ (nt hP₁).2 hs
    exact wpAny_execs_nil ⟨.next, ε₁, σ₁, D₂, k₁.trans k₂, rfl, hw⟩
  | cons x r =>
    refine K.step hA.hn D₁.S hi₁ ho₁ hP₁ fun v s₁' h' o' tk S₁' kk hoo hsz hkk rv hs ho₂ hP₂ => ?_
    have D₁' : Hd C g env ε₁ σ₁ s₁' := ⟨S₁', by
      obtain ⟨m, ⟨ob, es, ep, q', r'⟩, z⟩ := D₁.F.ns
      exact ⟨D₁.F.gL, D₁.F.hL, D₁.F.σL, m, ⟨ob, es, ep, hkk _ _ q', r'⟩, fun x V hx => let ⟨v, a, b⟩ := z x V hx; ⟨v, a, RV.mono kk _ _ b⟩⟩⟩
    obtain ⟨D₂, k₂⟩ := D₁'.other tk hσ₁ hg hH hL hs hoo (nt hP₁).2
    refine K.go (s := { s₁' with heap := h', toks := tk }) D₂.S ho₂ hP₂ fun h'' o'' hs' ho₃ hP₃ => ?_
    obtain ⟨D₃, k₃⟩ := D₂.other tk hσ₁ hg hH hL hs' ho₂ (nt hP₂).2
    have D₄ := D₃.toghost hσ₁ hH hL ho₃ (nt hP₃)
    have a' := hA.gadd (a := it) (o := o'') hg
    have kx : TK s.heap h'' := ((k₁.trans kk).trans k₂).trans k₃
    refine wpAny_mono (hw A _ _ v a' D₄ (RV.mono k₃ _ _ rv)) (fun _ s₅ ⟨ε₅, σ₅, D₅, k₅, h₅⟩ => ?_) fun e s' z => fin e s' ((z.unghost hg hL).trans kx)
    refine wpAny_mono (h₅ A _ s₅ a' D₅) (fun f s₆ ⟨fl, ε₆, σ₆, D₆, k₆, rf, h₆⟩ => ?_) fun e s' z => fin e s' ((z.unghost hg hL).trans (kx.trans k₅))
    have D₇ := D₆.unghost hg hL
    have hit : s₆.heap.get? it = some o'' := by
      obtain ⟨o₆, q, se⟩ := D₆.S.gs it o'' (by simp [gadd])
      obtain ⟨⟨vs, d⟩, _⟩ := K.nx _ _ _ hP₃
      rw [q, se.eq d]
    have hσ₆ : σ₆ it = none := by
      cases q : σ₆ it with
      | none => rfl
      | some ob => have := D₆.S.gσ it (by rw [q]; exact nofun); simp [gadd] at this
    have k₇ : TK s.heap s₆.heap := (kx.trans k₅).trans k₆
    cases fl with
    | next => rw [show f = _ from rf]; exact ⟨r.length, Nat.lt_succ_self _, r, ε₆, σ₆, o'', rfl, D₇, k₇, hit, K.mono _ _ _ _ (k₅.trans k₆) hP₃, h₆.1, hσ₆, h₆.2⟩
    | cont => rw [show f = _ from rf]; exact ⟨r.length, Nat.lt_succ_self _, r, ε₆, σ₆, o'', rfl, D₇, k₇, hit, K.mono _ _ _ _ (k₅.trans k₆) hP₃, h₆.1, hσ₆, h₆.2⟩
    | brk => rw [show f = _ from rf]; exact ⟨.next, ε₆, σ₆, D₇, k₇, rfl, h₆⟩
    | ret y => obtain ⟨w, rfl, rw'⟩ := rf; exact ⟨.ret y, ε₆, σ₆, D₇, k₇, ⟨w, rfl, rw'⟩, h₆⟩
def Goes (C : Cx) (x : V) (items : List V) (Inv : Store → Prop) (σ : Store) : Prop :=
  Inv σ ∧ ∀ {A : Around} {g : Gh} {env : Env} {ε : Loc} {s : Shared} {v : Value} {QQ : Value → Shared → Prop} {E : Value → Shared → Prop}, A.units < cLine → Hd C g env ε σ s → RV s.heap x v →
    (∀ it P o h' tk, ItK C it Inv P → Hd C g env ε σ { s with heap := h', toks := tk } → TK s.heap h' → σ it = none → g it = none → C.H.get? it = none → it ≠ env.locals → h'.get? it = some o → P items o h' → QQ (.ref it) { s with heap := h', toks := tk }) →
    wpAny C.M A (pyIter v) QQ E s
inductive ItP (C : Cx) (QI : List V → (Store → Prop) → Store → Prop) (x : V) (σ₁ : Store) : Prop
  | mk (items : List V) (Inv : Store → Prop) (σ₂ : Store) (h1 : Goes C x items Inv σ₁) (h2 : ∀ a o, σ₂ a = some o → σ₁ a = some o) (h3 : Inv σ₂) (h4 : QI items Inv σ₂)
abbrev Qfi (C : Cx) (n : Nat) (env : Env) (ε : Loc) (target : Expr) (body : List Stmt) (QS : Fl → Loc → Store → Prop) (X : AX → Store → Prop) : List V → (Store → Prop) → Store → Prop := fun items Inv σ₂ => ForW C (n + 1) env target body Inv QS X items ε σ₂
theorem TS_For {target iter : Expr} {body : List Stmt} {pos : Pos} (hf : env.frame = some env.locals) (h : EV C (n + 1) env ε iter σ (ItP C (Qfi C n env ε target body QS X)) X)
    (hs : ∀ x, foldedSetIterable iter env x = pure x := by intro _; rfl) : TS C (n + 1) env ε (exec (.For target iter body [] pos) env) σ QS X := fun A g s a D =>
  wpAny_For (h.use a D (fun v x σ₁ s₁ D₁ k₁ r₁ ⟨items, Inv, σ₂, ⟨hi, go⟩, hsub, hi₂, hw⟩ => go a.urm D₁ r₁ fun it P o h' tk K D₂ k₂ e1 e2 e3 e4 e5 e6 =>
    codeAny_mono (for_gen K a hf (D₂.weaken hsub) hi₂ (by
      cases q : σ₂ it with
      | none => rfl
      | some ob => rw [hsub _ _ q] at e1; cases e1) e2 e3 e4 e5 e6 hw) fun r s' z => by
      rcases r with e | f
      · exact wpAny_mono z (fun _ _ q => q.trans (k₁.trans k₂)) fun _ _ q => q.trans (k₁.trans k₂)
      · exact z.trans (k₁.trans k₂)) fun _ _ z => z) hs
end
end Mine
end
section
open PySem PySem.W PyProof.Rows PySem.Calls PySem.Spec
set_option Elab.async false
set_option maxRecDepth 100000
set_option linter.unusedVariables false
namespace Mine
theorem tk_same {h h' : Heap} {a : Addr} {o : Obj} (hs : Heap.SameBut a h h') (ho : h.get? a = some o) (ht : NT o) : TK h h' :=
  fun b x e c ⟨xs, m, d⟩ => (hs.2 b fun q => by subst q; rw [ho] at e; cases e; exact ht xs m d c).trans e
theorem rvs_at {h : Heap} {items : List V} {vs : List Value} {x : V} {r : List V} {i : Nat} (q : RVs h items vs) (e : x :: r = items.drop i) : ∃ v, vs[i]? = some v ∧ RV h x v ∧ r = items.drop (i + 1) := by
  have e1 : items[i]? = some x := by
    have : (items.drop i)[0]? = some x := by rw [← e]; rfl
    simpa using this
  obtain ⟨v, e2, e3⟩ := q.get e1
  refine ⟨v, e2, e3, ?_⟩
  have : (items.drop i).tail = items.drop (i + 1) := by rw [List.tail_drop]
  rw [← this, ← e]; rfl
theorem nil_at {h : Heap} {items : List V} {vs : List Value} {i : Nat} (q : RVs h items vs) (e : [] = items.drop i) : vs.toArray[i]? = none := by
  have := q.length
  have e' := congrArg List.length e
  simp at e' ⊢
  omega
theorem go_plain {C : Cx} {it : Addr} {P : List V → Obj → Heap → Prop} {nm : String} (hn : (["enumerate", "zip", "dict_itemiterator", "dict_reverseitemiterator", "odict_iterator", "itertools.zip_longest", "itertools.pairwise"].contains nm) = false)
    (hc : ∀ r o h, P r o h → o.cls = .type nm ∧ ∃ vs, o.data = .fields vs)
    {A : Around} {g : Gh} {σ : Store} {s : Shared} {r : List V} {o : Obj} {target : Expr} {v : Value} {QQ : Unit → Shared → Prop} {E : Value → Shared → Prop} (S : St C g σ s) (ho : s.heap.get? it = some o) (hp : P r o s.heap)
    (h : ∀ h' o', Heap.SameBut it s.heap h' → h'.get? it = some o' → P r o' h' → QQ () { s with heap := h' }) : wpAny C.M A (letOwnedTupleGo target (.ref it) v) QQ E s := by
  have fin : QQ () s := h s.heap o (Heap.SameBut.refl _ _) ho hp
  obtain ⟨c, vs, d⟩ := hc r o _ hp
  unfold letOwnedTupleGo
  split
  all_goals first
    | exact wpAny_pure fin
    | skip
  all_goals (
    split
    · rename_i r' a' e
      cases e
      refine wpAny_bind (wpAny_load ho ?_)
      rw [c, d]
      dsimp only
      rw [hn, Bool.false_and]
      exact wpAny_pure fin
    · exact wpAny_pure fin)
section
variable {C : Cx} {g : Gh} {σ σ' : Store} {s s' : Shared} {env : Env} {ε : Loc} {n : Nat} {A : Around} {Q : V → Store → Prop} {X : AX → Store → Prop} {QB : Bool → Store → Prop} {QS : Fl → Loc → Store → Prop} {QA : Loc → Store → Prop}
def PList (l : Addr) (items r : List V) (o : Obj) (_ : Heap) : Prop := ∃ i : Nat, o.cls = .type "list_iterator" ∧ o.data = .fields #[.ref l, .int i 0] ∧ r = items.drop i
theorem itk_list {it l : Addr} {items : List V} (hne : it ≠ l) : ItK C it (fun σ => σ l = some (.list items)) (PList l items) where
  mono := fun _ _ _ _ _ p => p
  nx := fun _ _ _ ⟨i, c, d, _⟩ => ⟨⟨_, d⟩, _, c, by decide⟩
  step := fun {A g σ s x r o QQ E} hh S hi ho ⟨i, c, d, e⟩ h => by
    obtain ⟨vs, hl, hv⟩ := S.sim l _ hi
    obtain ⟨v, e1, e2, e3⟩ := rvs_at hv e
    refine wpAny_pyNext_list_item ⟨o, ho, c, d⟩ hl.isList (by simpa using e1) fun h' ⟨o', ho', c', d'⟩ hs => ?_
    have k := tk_same hs ho (NT.fields d)
    exact h v s h' o' s.toks S (TK.refl _) ho (Nat.le_refl _) (fun _ _ z => z) (RV.mono k _ _ e2) hs ho' ⟨i + 1, c', by simpa using d', e3⟩
  stop := fun {A g σ s o QQ E} hh S hi ho ⟨i, c, d, e⟩ h => by
    obtain ⟨vs, hl, hv⟩ := S.sim l _ hi
    exact wpAny_pyNext_list_end hh ⟨o, ho, c, d⟩ hl.isList (nil_at hv e) fun h' hs => h h' s.toks hs
  self := fun ho ⟨i, c, d, _⟩ q => wpAny_pyIter_listiter ⟨_, ho, c, d⟩ q
  go := fun S ho hp h => go_plain (nm := "list_iterator") (by decide) (fun _ _ _ ⟨_, c, d, _⟩ => ⟨c, _, d⟩) S ho hp h
theorem goes_list {l : Addr} {items : List V} (hl : σ l = some (.list items)) : Goes C (.obj l) items (fun σ => σ l = some (.list items)) σ := ⟨hl, fun {A g env ε s v QQ E} hu D r h => by
  rw [show v = _ from r]
  obtain ⟨vs, hls, hv⟩ := D.S.sim l _ hl
  obtain ⟨f1, f2, f3, f4⟩ := D.fresh (Nat.le_refl _)
  refine wpAny_pyIter_list hls.isList (h s.heap.objs.size _ { cls := .type "list_iterator", data := .fields #[.ref l, .int 0 0] } _ s.toks (itk_list (items := items) fun q => ?_) (D.push _ _) (TK.push _ _) f1 f2 f3 f4 (Heap.get?_push_size _ rfl) ⟨0, rfl, rfl, rfl⟩)
  rw [q, hl] at f1; cases f1⟩
def PTup (t : Addr) (items : List V) (r : List V) (o : Obj) (h : Heap) : Prop := ∃ (i : Nat) (vs : List Value), o.cls = .type "tuple_iterator" ∧ o.data = .fields #[.ref t, .int i 0] ∧ r = items.drop i ∧ IsTup h t vs.toArray ∧ RVs h items vs
theorem itk_tup {it t : Addr} {items : List V} : ItK C it (fun _ => True) (PTup t items) where
  mono := fun _ _ _ _ k ⟨i, vs, c, d, e, q, r⟩ => ⟨i, vs, c, d, e, k.tup q, RVs.mono k _ _ r⟩
  nx := fun _ _ _ ⟨i, _, c, d, _⟩ => ⟨⟨_, d⟩, _, c, by decide⟩
  step := fun {A g σ s x r o QQ E} hh S hi ho ⟨i, vs, c, d, e, q, hv⟩ h => by
    obtain ⟨v, e1, e2, e3⟩ := rvs_at hv e
    refine wpAny_pyNext_tuple_item ⟨o, ho, c, d⟩ q (by simpa using e1) fun h' ⟨o', ho', c', d'⟩ hs => ?_
    have k := tk_same hs ho (NT.fields d)
    exact h v s h' o' s.toks S (TK.refl _) ho (Nat.le_refl _) (fun _ _ z => z) (RV.mono k _ _ e2) hs ho' ⟨i + 1, vs, c', by simpa using d', e3, k.tup q, RVs.mono k _ _ hv⟩
  stop := fun {A g σ s o QQ E} hh S hi ho ⟨i, vs, c, d, e, q, hv⟩ h => wpAny_pyNext_tuple_end hh ⟨o, ho, c, d⟩ q (nil_at hv e) fun h' hs => h h' s.toks hs
  self := fun ho ⟨i, _, c, d, _⟩ q => wpAny_pyIter_tupleiter ⟨_, ho, c, d⟩ q
  go := fun S ho hp h => go_plain (nm := "tuple_iterator") (by decide) (fun _ _ _ ⟨_, _, c, d, _⟩ => ⟨c, _, d⟩) S ho hp h
theorem goes_tup {items : List V} : Goes C (.tup items) items (fun _ => True) σ := ⟨trivial, fun {A g env ε s v QQ E} hu D r h => by
  obtain ⟨t, vs, rfl, q, hv⟩ := r
  obtain ⟨f1, f2, f3, f4⟩ := D.fresh (Nat.le_refl _)
  have k := TK.push s.heap { cls := .type "tuple_iterator", data := .fields #[.ref t, .int 0 0] }
  exact wpAny_pyIter_tuple q (h s.heap.objs.size _ _ _ s.toks itk_tup (D.push _ _) k f1 f2 f3 f4 (Heap.get?_push_size _ rfl) ⟨0, vs, rfl, rfl, rfl, k.tup q, RVs.mono k _ _ hv⟩)⟩
def octs (b : List UInt8) : List V := b.map fun c => .int (c.toNat : Int)
def PBytes (b : Array UInt8) (r : List V) (o : Obj) (_ : Heap) : Prop := ∃ (i : Nat) (t : Tok), o.cls = .type "bytes_iterator" ∧ o.data = .fields #[.bytes b t, .int i 0] ∧ r = octs (b.toList.drop i)
theorem itk_bytes {it : Addr} {b : Array UInt8} : ItK C it (fun _ => True) (PBytes b) where
  mono := fun _ _ _ _ _ p => p
  nx := fun _ _ _ ⟨i, _, c, d, _⟩ => ⟨⟨_, d⟩, _, c, by decide⟩
  step := fun {A g σ s x r o QQ E} hh S hi ho ⟨i, t, c, d, e⟩ h => by
    cases q : b.toList.drop i with
    | nil => rw [q] at e; cases e
    | cons y l =>
      rw [q] at e
      have hx : b[i]? = some y := by
        have : (b.toList.drop i)[0]? = some y := by rw [q]; rfl
        simpa using this
      have hl : l = b.toList.drop (i + 1) := by rw [← List.tail_drop, q]; rfl
      cases e
      refine KBw.next_item ⟨o, ho, c, d⟩ hx fun h' ⟨o', ho', c', d'⟩ hs => ?_
      have k := tk_same hs ho (NT.fields d)
      exact h _ s h' o' _ S (TK.refl _) ho (Nat.le_refl _) (fun _ _ z => z) rv_int hs ho' ⟨i + 1, t, c', by simpa using d', by rw [← hl]; rfl⟩
  stop := fun {A g σ s o QQ E} hh S hi ho ⟨i, t, c, d, e⟩ h => KBw.next_end hh ⟨o, ho, c, d⟩ (by
    have := congrArg List.length e
    simp [octs] at this ⊢
    omega) fun h' hs => h h' s.toks hs
  self := fun ho ⟨i, _, c, d, _⟩ q => KBw.pyIter_self ⟨_, ho, c, d⟩ q
  go := fun S ho hp h => go_plain (nm := "bytes_iterator") (by decide) (fun _ _ _ ⟨_, _, c, d, _⟩ => ⟨c, _, d⟩) S ho hp h
theorem goes_bytes {b : Array UInt8} : Goes C (.bytes b) (octs b.toList) (fun _ => True) σ := ⟨trivial, fun {A g env ε s v QQ E} hu D r h => by
  obtain ⟨t, rfl⟩ := r
  obtain ⟨f1, f2, f3, f4⟩ := D.fresh (Nat.le_refl _)
  exact KBw.pyIter_bytes (h s.heap.objs.size _ _ _ s.toks itk_bytes (D.push _ _) (TK.push _ _) f1 f2 f3 f4 (Heap.get?_push_size _ rfl) ⟨0, t, rfl, rfl, by simp⟩)⟩
def upto (a c : Int) : Nat → List V
  | 0 => []
  | k + 1 => .int a :: upto (a + c) c k
def PRange (c : Int) (r : List V) (o : Obj) (_ : Heap) : Prop := ∃ (a : Int) (k : Nat), o = { cls := .type "range_iterator", data := .fields #[rawInt a, rawInt k, rawInt c] } ∧ r = upto a c k
theorem itk_range {it : Addr} {c : Int} : ItK C it (fun _ => True) (PRange c) where
  mono := fun _ _ _ _ _ p => p
  nx := fun _ _ _ ⟨a, k, e, _⟩ => by subst e; exact ⟨⟨_, rfl⟩, _, rfl, by decide⟩
  step := fun {A g σ s x r o QQ E} hh S hi ho ⟨a, k, e, q⟩ h => by
    subst e
    cases k with
    | zero => cases q
    | succ k =>
      cases q
      refine wpAny_pyNext_range_item (left := ((k + 1 : Nat) : Int)) ho (by omega) fun h' hit hs => ?_
      exact h _ s h' _ _ S (TK.refl _) ho (Nat.le_refl _) (fun _ _ z => z) rv_int hs hit ⟨a + c, k, by simp, rfl⟩
  stop := fun {A g σ s o QQ E} hh S hi ho ⟨a, k, e, q⟩ h => by
    subst e
    cases k with
    | succ k => cases q
    | zero => exact wpAny_pyNext_range_end hh ho (Int.le_refl _) fun h' hs => h h' s.toks hs
  self := fun ho ⟨a, k, e, _⟩ q => by subst e; exact wpAny_pyIter_rangeiter ho q
  go := fun S ho hp h => go_plain (nm := "range_iterator") (by decide) (fun _ _ _ ⟨_, _, e, _⟩ => by subst e; exact ⟨rfl, _, rfl⟩) S ho hp h
end
end Mine
end
section
open PySem PySem.W PyProof.Rows PySem.Calls PySem.Spec
set_option Elab.async false
set_option maxRecDepth 100000
set_option linter.unusedVariables false
namespace Mine
section
variable {C : Cx} {g : Gh} {σ σ' : Store} {s s' : Shared} {env : Env} {ε : Loc} {n : Nat} {A : Around} {Q : V → Store → Prop} {X : AX → Store → Prop} {QB : Bool → Store → Prop} {QS : Fl → Loc → Store → Prop} {QA : Loc → Store → Prop}
def signs (x : List Nat) : List V := x.map fun c => .str ⟨#[c]⟩
def PStr (ty : String) (x : Str) (r : List V) (o : Obj) (_ : Heap) : Prop := ∃ (i : Nat) (t : Tok), o.cls = .type ty ∧ o.data = .fields #[.str x t, .int i 0] ∧ r = signs (x.cps.toList.drop i)
theorem str_at {x : Str} {i : Nat} {y : V} {r : List V} (e : y :: r = signs (x.cps.toList.drop i)) : ∃ c, x.cps[i]? = some c ∧ y = .str ⟨#[c]⟩ ∧ r = signs (x.cps.toList.drop (i + 1)) := by
  cases q : x.cps.toList.drop i with
  | nil => rw [q] at e; cases e
  | cons c l =>
    rw [q] at e
    have hx : x.cps[i]? = some c := by
      have : (x.cps.toList.drop i)[0]? = some c := by rw [q]; rfl
      simpa using this
    have hl : l = x.cps.toList.drop (i + 1) := by rw [← List.tail_drop, q]; rfl
    cases e
    exact ⟨c, hx, rfl, by rw [← hl]; rfl⟩
theorem str_end {x : Str} {i : Nat} (e : [] = signs (x.cps.toList.drop i)) : x.cps[i]? = none := by
  have := congrArg List.length e
  simp [signs] at this ⊢
  omega
theorem itk_ascii {it : Addr} {x : Str} : ItK C it (fun _ => True) (PStr "str_ascii_iterator" x) where
  mono := fun _ _ _ _ _ p => p
  nx := fun _ _ _ ⟨i, _, c, d, _⟩ => ⟨⟨_, d⟩, _, c, by decide⟩
  step := fun {A g σ s y r o QQ E} hh S hi ho ⟨i, t, c, d, e⟩ h => by
    obtain ⟨c', hx, rfl, hr⟩ := str_at e
    refine wpAny_pyNext_ascii_item ⟨o, ho, c, d⟩ hx fun h' ⟨o', ho', c', d'⟩ hs => ?_
    exact h _ s h' o' _ S (TK.refl _) ho (Nat.le_refl _) (fun _ _ z => z) rv_str hs ho' ⟨i + 1, t, c', by simpa using d', hr⟩
  stop := fun {A g σ s o QQ E} hh S hi ho ⟨i, t, c, d, e⟩ h => wpAny_pyNext_ascii_end hh ⟨o, ho, c, d⟩ (str_end e) fun h' hs => h h' s.toks hs
  self := fun ho ⟨i, _, c, d, _⟩ q => wpAny_pyIter_striter_ascii ⟨_, ho, c, d⟩ q
  go := fun S ho hp h => go_plain (nm := "str_ascii_iterator") (by decide) (fun _ _ _ ⟨_, _, c, d, _⟩ => ⟨c, _, d⟩) S ho hp h
theorem itk_wide {it : Addr} {x : Str} : ItK C it (fun _ => True) (PStr "str_iterator" x) where
  mono := fun _ _ _ _ _ p => p
  nx := fun _ _ _ ⟨i, _, c, d, _⟩ => ⟨⟨_, d⟩, _, c, by decide⟩
  step := fun {A g σ s y r o QQ E} hh S hi ho ⟨i, t, c, d, e⟩ h => by
    obtain ⟨c', hx, rfl, hr⟩ := str_at e
    refine wpAny_pyNext_wide_item ⟨o, ho, c, d⟩ hx fun h' ⟨o', ho', c', d'⟩ hs => ?_
    exact h _ s h' o' _ S (TK.refl _) ho (Nat.le_refl _) (fun _ _ z => z) rv_str hs ho' ⟨i + 1, t, c', by simpa using d', hr⟩
  stop := fun {A g σ s o QQ E} hh S hi ho ⟨i, t, c, d, e⟩ h => wpAny_pyNext_wide_end hh ⟨o, ho, c, d⟩ (str_end e) fun h' hs => h h' s.toks hs
  self := fun ho ⟨i, _, c, d, _⟩ q => wpAny_pyIter_striter_wide ⟨_, ho, c, d⟩ q
  go := fun S ho hp h => go_plain (nm := "str_iterator") (by decide) (fun _ _ _ ⟨_, _, c, d, _⟩ => ⟨c, _, d⟩) S ho hp h
theorem goes_str {x : Str} : Goes C (.str x) (signs x.cps.toList) (fun _ => True) σ := ⟨trivial, fun {A g env ε s v QQ E} hu D r h => by
  obtain ⟨t, rfl⟩ := r
  obtain ⟨f1, f2, f3, f4⟩ := D.fresh (Nat.le_refl _)
  cases ha : x.cps.all (· < 128)
  · exact wpAny_pyIter_wide ha (h s.heap.objs.size _ _ _ s.toks itk_wide (D.push _ _) (TK.push _ _) f1 f2 f3 f4 (Heap.get?_push_size _ rfl) ⟨0, t, rfl, rfl, by simp⟩)
  · exact wpAny_pyIter_ascii ha (h s.heap.objs.size _ _ _ s.toks itk_ascii (D.push _ _) (TK.push _ _) f1 f2 f3 f4 (Heap.get?_push_size _ rfl) ⟨0, t, rfl, rfl, by simp⟩)⟩
theorem RPairs.length {α : Type} {h : Heap} : ∀ {l : List (α × V)} {vs : List (α × Value)}, RPairs h l vs → vs.length = l.length
  | [], _, r => by rw [show _ = [] from r]; rfl
  | (_, _) :: l, _, r => by obtain ⟨v, q, rfl, _, r2⟩ := r; simp [r2.length]
def rangeObj (a b c : Int) (t u v : Tok) : Obj := { cls := .type "range", data := .fields #[.int a t, .int b u, .int c v] }
theorem goes_range {r : Addr} {a b c : Int} {t u v : Tok} {k : Nat} (hs : Builtin.Range.small a b c = true) (hk : Builtin.Range.rangeSize a b c = k) (hr : σ r = some (.raw (rangeObj a b c t u v))) : Goes C (.obj r) (upto a c k) (fun _ => True) σ :=
  ⟨trivial, fun {A g env ε s w QQ E} hu D rr h => by
  rw [show w = _ from rr]
  obtain ⟨f1, f2, f3, f4⟩ := D.fresh (Nat.le_refl _)
  exact wpAny_pyIter_range (D.S.sim r _ hr) hs (h s.heap.objs.size _ _ _ s.toks itk_range (D.push _ _) (TK.push _ _) f1 f2 f3 f4 (Heap.get?_push_size _ rfl) ⟨a, k, by rw [hk], rfl⟩)⟩
def IT (C : Cx) (n : Nat) (env : Env) (ε : Loc) (e : Expr) (σ : Store) (QI : List V → (Store → Prop) → Store → Prop) (X : AX → Store → Prop) : Prop :=
  EV C n env ε e σ (ItP C QI) X
theorem range_1 {b : Int} (h : ∀ r t u v, σ r = none → Q (.obj r) (upd σ r (.raw (rangeObj 0 b 1 t u v)))) : OPL C n env ε (fun vs => call (.type "range") vs) [.int b] σ Q X := fun A g s vs hA D r => by
  obtain ⟨v, r', rfl, ⟨t, rfl⟩, q⟩ := r
  rw [show r' = [] from q]
  refine call_range_1 ?_
  obtain ⟨f1, D', k⟩ := D.alloc (rangeObj 0 b 1 s.toks t (s.toks + 1)) (s.toks + 1 + 1) (x := .raw (rangeObj 0 b 1 s.toks t (s.toks + 1))) (Heap.get?_push_size _ rfl)
  exact ⟨.obj _, _, D', k, rv_obj, h _ _ _ _ f1⟩
theorem range_2 {a b : Int} (h : ∀ r t u v, σ r = none → Q (.obj r) (upd σ r (.raw (rangeObj a b 1 t u v)))) : OPL C n env ε (fun vs => call (.type "range") vs) [.int a, .int b] σ Q X := fun A g s vs hA D r => by
  obtain ⟨v, r', rfl, ⟨t, rfl⟩, r''⟩ := r
  obtain ⟨v, r3, rfl, ⟨u, rfl⟩, q⟩ := r''
  rw [show r3 = [] from q]
  refine call_range_2 ?_
  obtain ⟨f1, D', k⟩ := D.alloc (rangeObj a b 1 t u s.toks) (s.toks + 1) (x := .raw (rangeObj a b 1 t u s.toks)) (Heap.get?_push_size _ rfl)
  exact ⟨.obj _, _, D', k, rv_obj, h _ _ _ _ f1⟩
theorem range_3 {a b c : Int} (hc : c ≠ 0) (hp : Builtin.divisionGoesByPylong (b - a) c = false) (h : ∀ r t u v, σ r = none → Q (.obj r) (upd σ r (.raw (rangeObj a b c t u v)))) : OPL C n env ε (fun vs => call (.type "range") vs) [.int a, .int b, .int c] σ Q X := fun A g s vs hA D r => by
  obtain ⟨v, r', rfl, ⟨t, rfl⟩, r''⟩ := r
  obtain ⟨v, r3, rfl, ⟨u, rfl⟩, r4⟩ := r''
  obtain ⟨v, r5, rfl, ⟨w, rfl⟩, q⟩ := r4
  rw [show r5 = [] from q]
  refine call_range_3 hc ?_ (.inl hp)
  obtain ⟨f1, D', k⟩ := D.alloc (rangeObj a b c t u w) s.toks (x := .raw (rangeObj a b c t u w)) (Heap.get?_push_size _ rfl)
  exact ⟨.obj _, _, D', k, rv_obj, h _ _ _ _ f1⟩
theorem upd_sub {a : Addr} {o : AO} (h : σ a = none) : ∀ b x, σ b = some x → upd σ a o b = some x := fun b x e => by
  have : b ≠ a := fun q => by rw [q, h] at e; cases e
  rw [upd_ne _ _ this]; exact e
theorem rangeSize_up (a b : Int) : Builtin.Range.rangeSize a b 1 = ((b - a).toNat : Nat) := by
  rw [rangeSize_one]; split <;> omega
theorem TL.mono {t : Sem (List Value)} {QL QL' : List V → Store → Prop} (h : TL C n env ε t σ QL X) (hQ : ∀ xs σ, QL xs σ → QL' xs σ) : TL C n env ε t σ QL' X :=
  fun A g s a D => wpAny_mono (h A g s a D) (fun _ _ ⟨x, σ', p, q, r, z⟩ => ⟨x, σ', p, q, r, hQ _ _ z⟩) fun _ _ z => z
inductive RgP (QI : List V → (Store → Prop) → Store → Prop) (xs : List V) (σ₁ : Store) : Prop
  | mk (a b c : Int) (k : Nat) (z : xs = [.int b] ∧ a = 0 ∧ c = 1 ∨ xs = [.int a, .int b] ∧ c = 1 ∨ xs = [.int a, .int b, .int c] ∧ c ≠ 0 ∧ Builtin.divisionGoesByPylong (b - a) c = false) (hs : Builtin.Range.small a b c = true) (hk : Builtin.Range.rangeSize a b c = (k : Nat)) (q : QI (upto a c k) (fun _ => True) σ₁)
theorem IT_range {e : Expr} {es : List Expr} {pos pf : Pos} {QI : List V → (Store → Prop) → Store → Prop} (hn : EV C n env ε (.Name "range" pf) σ (fun x σ₁ => x = .raw (.type "range") ∧ σ₁ = σ) X)
    (h : TL C n env ε (spliced (backTo pos (starEach (e :: es) env))) σ (RgP QI) X)
    (he : eval (.Call (.Name "range" pf) (e :: es) [] pos) env = (do callWith pos (← eval (.Name "range" pf) env) [] (backTo pos (starEach (e :: es) env)) []) := by rfl)
    (he2 : starEach (e :: es) env = (false, eval e env) :: starEach es env := by rfl) (hp : (backTo pos (starEach es env)).any (·.1) = false := by rfl) : IT C n env ε (.Call (.Name "range" pf) (e :: es) [] pos) σ QI X := by
  refine EV_Call (TV.mono hn (fun x σ₁ ⟨e1, e2⟩ => ?_) fun _ _ x => x) he
  subst e1 e2
  refine ⟨_, one_raw _, CW_cons (TL.mono h fun xs σ₁ ⟨a, b, c, k, z, hs, hk, q⟩ => ⟨Kp_type, ?_⟩) he2 hp⟩
  have fin : ∀ r t u v, σ₁ r = none → ItP C QI (.obj r) (upd σ₁ r (.raw (rangeObj a b c t u v))) :=
    fun r t u v hr => ⟨_, _, σ₁, goes_range hs hk (upd_self ..), upd_sub hr, trivial, q⟩
  rcases z with ⟨rfl, rfl, rfl⟩ | ⟨rfl, rfl⟩ | ⟨rfl, hc, hd⟩
  · exact range_1 fin
  · exact range_2 fin
  · exact range_3 hc hd fin
theorem TS_For_it {target iter : Expr} {body : List Stmt} {pos : Pos} (hf : env.frame = some env.locals) (h : IT C (n + 1) env ε iter σ (Qfi C n env ε target body QS X) X)
    (hs : ∀ x, foldedSetIterable iter env x = pure x := by intro _; rfl) : TS C (n + 1) env ε (exec (.For target iter body [] pos) env) σ QS X :=
  TS_For hf h hs
variable {QI : List V → (Store → Prop) → Store → Prop}
abbrev Qiv (C : Cx) (QI : List V → (Store → Prop) → Store → Prop) : V → Store → Prop := fun x σ₁ => ∃ items Inv, Goes C x items Inv σ₁ ∧ QI items Inv σ₁
theorem IT_val {e : Expr} (h : EV C n env ε e σ (Qiv C QI) X) : IT C n env ε e σ QI X :=
  TV.mono h (fun x σ₁ ⟨items, Inv, a, b⟩ => ⟨items, Inv, σ₁, a, fun _ _ e => e, a.1, b⟩) fun _ _ x => x
end
end Mine
end
section
open PySem PySem.W PyProof.Rows PySem.Calls PySem.Spec
set_option Elab.async false
set_option maxRecDepth 100000
set_option linter.unusedVariables false
namespace Mine
def XF : AX → Store → Prop := fun _ _ => False
def tests (ifs : List Expr) (env : Env) : Sem Bool := forIn ifs true fun c r => if r = true then do let ok ← isTrue c env (eval c env); pure (ForInStep.yield ok) else pure (ForInStep.yield r)
def CmpW (C : Cx) (n : Nat) (env : Env) (target elt : Expr) (ifs : List Expr) (Inv : Store → Prop) (QA : List V → Store → Prop) : List V → List V → Loc → Store → Prop
  | acc, [], _, σ => QA acc σ
  | acc, x :: r, ε, σ => TA C n env ε (assign target env) x σ (fun ε₁ σ₁ => TT C n env ε₁ (tests ifs env) σ₁ (fun b σ₂ =>
      if b then EV C n env ε₁ elt σ₂ (fun y σ₃ => Inv σ₃ ∧ CmpW C n env target elt ifs Inv QA (acc ++ [y]) r ε₁ σ₃) XF else Inv σ₂ ∧ CmpW C n env target elt ifs Inv QA acc r ε₁ σ₂) XF) XF
section
variable {C : Cx} {g : Gh} {σ σ' : Store} {s s' : Shared} {env : Env} {ε : Loc} {n : Nat} {A : Around} {Q : V → Store → Prop} {X : AX → Store → Prop} {QB : Bool → Store → Prop} {QS : Fl → Loc → Store → Prop} {QA : Loc → Store → Prop} {QL : List V → Store → Prop}
theorem TT_tests_nil (h : QB true σ) : TT C n env ε (tests [] env) σ QB X := fun A g s a D => wpAny_tests_nil (pb D h)
theorem TT_tests_one {c : Expr} (h : TT C n env ε (isTrue c env (eval c env)) σ QB X) : TT C n env ε (tests [c] env) σ QB X := fun A g s a D => wpAny_tests_one (h A g s a D)
theorem PostX.no {e : Value} {s₀ : Shared} (h : PostX C g env s₀ XF e s) {P : Prop} : P := by
  obtain ⟨_, _, _, _, _, _, _, q⟩ := h; exact q.elim
theorem NT.list {o : Obj} (h : o.cls = .type "list") : NT o := fun _ _ _ c => by rw [h] at c; injection c with c; exact absurd c (by decide)
theorem NX.seq {o : Obj} {xs n} (h : o.data = .seq xs n) : NX o := fun _ e => by rw [h] at e; cases e
theorem append_pl {prog : Program} {w : World} {A : Around} {E : Value → Shared → Prop} {s : Shared} {l : Addr} {vs : List Value} {x : Value} {Q : Value → Shared → Prop} (hl : PL s.heap l vs)
    (hQ : ∀ h', PL h' l (vs ++ [x]) → Heap.SameBut l s.heap h' → Q .none { s with heap := h' }) (hsz : vs.length ≤ sizeLine) : wpAny (model prog w) A (call (.builtin "list.append") [.ref l, x]) Q E s := by
  obtain ⟨n, ho⟩ := id hl
  refine wpAny_call_entry slot_list_append hl.isList.typeIs entry_list_append ?_ (args_list_append _ _)
  show wpAny _ _ (updateSeq l (·.push x) >>= fun _ => ret .none) _ _ s
  refine wpAny_bind ?_
  refine wpAny_updateSeq (hz := by rw [List.size_toArray]; exact hsz) ho rfl (wpAny_pure ⟨.none, rfl, hQ _ ⟨n + 1, ?_⟩ (Heap.SameBut.update ..)⟩)
  have := get?_update_seq ho (·.push x)
  rw [this]
  simp [seqObj, listOb]
inductive CompI (C : Cx) (n : Nat) (g : Gh) (env : Env) (s : Shared) (target elt : Expr) (ifs : List Expr) (QL : List V → Store → Prop) (it acc : Addr) (P : List V → Obj → Heap → Prop) (Inv : Store → Prop) (k : Nat) (s₁ : Shared) : Prop
  | mk (r xs : List V) (vs : List Value) (ε₁ : Loc) (σ₁ : Store) (o₁ : Obj) (e0 : k = r.length) (e1 : xs.length + r.length ≤ 1000000) (e2 : Hd C g env ε₁ σ₁ s₁) (e3 : TK s.heap s₁.heap) (e4 : s₁.heap.get? it = some o₁) (e5 : P r o₁ s₁.heap) (e6 : Inv σ₁) (e7 : σ₁ it = none) (e8 : σ₁ acc = none)
      (e9 : PL s₁.heap acc vs) (e10 : RVs s₁.heap xs vs) (e11 : CmpW C (n + 1) env target elt ifs Inv QL xs r ε₁ σ₁)
theorem comp_gen {it acc : Addr} {P : List V → Obj → Heap → Prop} {Inv : Store → Prop} {target iter elt : Expr} {ifs : List Expr} {scope : Scope} {pos : Pos} {items : List V} {o : Obj} {R : Result → Shared → Prop} (K : ItK C it Inv P)
    (hA : AOk C (n + 1) g (some env) A) (D : Hd C g env ε σ s) (hi : Inv σ)
    (hσ : σ it = none) (hg : g it = none) (hH : C.H.get? it = none) (hL : it ≠ env.locals) (ho : s.heap.get? it = some o) (hP : P items o s.heap)
    (aσ : σ acc = none) (ag : g acc = none) (aH : C.H.get? acc = none) (aL : acc ≠ env.locals) (hne : it ≠ acc) (hacc : PL s.heap acc []) (hlen : items.length ≤ 1000000)
    (h : CmpW C (n + 1) env target elt ifs Inv QL [] items ε σ)
    (hR : ∀ xs vs ε' σ' s', Hd C g env ε' σ' s' → TK s.heap s'.heap → PL s'.heap acc vs → RVs s'.heap xs vs → σ' acc = none → QL xs σ' → R (.ok .next) s')
    (ht : ∀ v, letOwnedTupleGo target (.ref it) v = pure () := by intro _; rfl) :
    codeAny C.M A (.compLoop (.ListComp elt [⟨target, iter, ifs, 0⟩] scope pos) 0 (.ref it) (.ref acc) env) R s := by
  refine codeAny_compLoop_tests (CompI C n g env s target elt ifs QL it acc P Inv) ?_ items.length
    ⟨items, [], [], ε, σ, o, rfl, by simpa using hlen, D, TK.refl _, ho, hP, hi, hσ, aσ, hacc, RVs.nil, h⟩ ht
  rintro k s₁ ⟨r, xs, vs, ε₁, σ₁, o₁, rfl, hlen₁, D₁, k₁, ho₁, hP₁, hi₁, hσ₁, aσ₁, hl₁, rv₁, hw⟩
  have nt : ∀ {r o h}, P r o h → NX o ∧ NT o := fun p => by
    obtain ⟨⟨vs, d⟩, nm, c, ne⟩ := K.nx _ _ _ p
    exact ⟨fun _ _ => ⟨nm, c, ne⟩, NT.fields d⟩
  cases r with
  | nil =>
    refine K.stop hA.hn D₁.S hi₁ ho₁ hP₁ fun h' tk hs => ?_
    obtain ⟨D₂, k₂⟩ := D₁.ext tk hσ₁ hg hH hL ho₁ (nt hP₁).2 hs
    exact hR xs vs _ _ _ D₂ (k₁.trans k₂) (hl₁.extBut hs (Ne.symm hne)) (RVs.mono k₂ _ _ rv₁) aσ₁ hw
  | cons x r =>
    refine K.step hA.hn D₁.S hi₁ ho₁ hP₁ fun v s₁' h' o' tk S₁' kk hoo hsz hkk rv hs ho₂ hP₂ => ?_
    have D₁' : Hd C g env ε₁ σ₁ s₁' := ⟨S₁', by
      obtain ⟨m, ⟨ob, es, ep, q', r'⟩, z⟩ := D₁.F.ns
      exact ⟨D₁.F.gL, D₁.F.hL, D₁.F.σL, m, ⟨ob, es, ep, hkk _ _ q', r'⟩, fun x V hx => let ⟨v, a, b⟩ := z x V hx; ⟨v, a, RV.mono kk _ _ b⟩⟩⟩
    obtain ⟨D₂, k₂⟩ := D₁'.other tk hσ₁ hg hH hL hs hoo (nt hP₁).2
    have hl₂ : PL h' acc vs := (hl₁.at fun _ e => hkk _ _ e).extBut hs.extBut (Ne.symm hne)
    obtain ⟨nA, hoA⟩ := id hl₂
    have D₃ := D₂.toghost hσ₁ hH hL ho₂ (nt hP₂)
    have gA : gadd g it o' acc = none := by simp [gadd, Ne.symm hne, ag]
    have D₄ := D₃.toghost aσ₁ aH aL hoA ⟨NX.seq rfl, NT.list rfl⟩
    have a' := (hA.gadd (a := it) (o := o') hg).gadd (a := acc) (o := listOb vs nA) gA
    have kx : TK s.heap h' := (k₁.trans kk).trans k₂
    -- back from the ghosts
    have back : ∀ {ε₅ σ₅ s₅}, Hd C (gadd (gadd g it o') acc (listOb vs nA)) env ε₅ σ₅ s₅ → TK h' s₅.heap → Hd C g env ε₅ σ₅ s₅ ∧ s₅.heap.get? it = some o' ∧ P r o' s₅.heap ∧ PL s₅.heap acc vs ∧ σ₅ it = none ∧ σ₅ acc = none ∧ RVs s₅.heap xs vs := fun {ε₅ σ₅ s₅} D₅ k₅ => by
      have D₆ := D₅.unghost gA aL
      obtain ⟨o₆, q, se⟩ := D₆.S.gs it o' (by simp [gadd])
      obtain ⟨⟨ws, d⟩, _⟩ := K.nx _ _ _ hP₂
      rw [se.eq d] at q
      obtain ⟨o₇, q7, se7⟩ := D₅.S.gs acc (listOb vs nA) (by simp [gadd])
      refine ⟨D₆.unghost hg hL, q, K.mono _ _ _ _ k₅ hP₂, ⟨nA, by rw [← se7.eqs rfl]; exact q7⟩, ?_, ?_, RVs.mono ((kk.trans k₂).trans k₅) _ _ rv₁⟩
      · cases z : σ₅ it with
        | none => rfl
        | some ob => have := D₆.S.gσ it (by rw [z]; exact nofun); simp [gadd] at this
      · cases z : σ₅ acc with
        | none => rfl
        | some ob => have := D₅.S.gσ acc (by rw [z]; exact nofun); simp [gadd] at this
    refine wpAny_mono (hw A _ _ v a' D₄ rv) (fun _ s₅ ⟨ε₅, σ₅, D₅, k₅, h₅⟩ => ?_) fun e s' z => z.no
    refine wpAny_mono (h₅ A _ s₅ a' D₅) (fun b s₆ ⟨σ₆, D₆, k₆, h₆⟩ => ?_) fun e s' z => z.no
    simp only [List.length_cons] at hlen₁
    cases b with
    | false =>
      simp only [Bool.false_eq_true, if_false] at h₆ ⊢
      obtain ⟨b1, b2, b3, b4, b5, b6, b7⟩ := back D₆ (k₅.trans k₆)
      exact ⟨r.length, Nat.lt_succ_self _, r, xs, vs, ε₅, σ₆, o', rfl, by omega, b1, (kx.trans k₅).trans k₆, b2, b3, h₆.1, b5, b6, b4, b7, h₆.2⟩
    | true =>
      simp only [if_true] at h₆ ⊢
      refine wpAny_mono (h₆ A _ s₆ a' D₆) (fun w s₇ ⟨y, σ₇, D₇, k₇, r₇, h₇⟩ => ?_) fun e s' z => z.no
      obtain ⟨b1, b2, b3, b4, b5, b6, b7⟩ := back D₇ ((k₅.trans k₆).trans k₇)
      have hlv := b7.length
      obtain ⟨nB, hoB⟩ := id b4
      refine append_pl (hsz := by rw [sizeLine_eq]; omega) b4 fun h₈ hl₈ hs₈ => ?_
      obtain ⟨D₈, k₈⟩ := b1.other (h' := h₈) s₇.toks b6 ag aH aL hs₈ hoB (NT.list rfl)
      refine ⟨r.length, Nat.lt_succ_self _, r, xs ++ [y], vs ++ [w], ε₅, σ₇, o', rfl, by simp; omega, D₈, (((kx.trans k₅).trans k₆).trans k₇).trans k₈, (hs₈.2 _ hne).trans b2, K.mono _ _ _ _ k₈ b3, h₇.1, b5, b6, ?_, ?_, h₇.2⟩
      · exact hl₈
      · exact RVs.append (RVs.mono k₈ _ _ b7) (RVs.one (RV.mono k₈ _ _ r₇))
end
end Mine
end
section
open PySem PySem.W PyProof.Rows PySem.Calls PySem.Spec
set_option Elab.async false
set_option maxRecDepth 100000
set_option linter.unusedVariables false
namespace Mine
section
variable {C : Cx} {g : Gh} {σ σ' : Store} {s s' : Shared} {env : Env} {ε : Loc} {n : Nat} {A : Around} {Q : V → Store → Prop} {X : AX → Store → Prop} {QB : Bool → Store → Prop} {QS : Fl → Loc → Store → Prop} {QA : Loc → Store → Prop} {QL : List V → Store → Prop}
theorem comp_in {target iter elt : Expr} {ifs : List Expr} {scope : Scope} {pos : Pos} {cl : List (Str × Addr)} {items : List V} {Inv : Store → Prop} {σ₂ : Store} {it : Addr} {P : List V → Obj → Heap → Prop} {o : Obj} {E : Value → Shared → Prop}
    {RR : Value → Addr → Result → Shared → Prop}
    (hA : AOk C (n + 1) g (some env) A) (D : Hd C g env ε σ₂ s) (K : ItK C it Inv P) (hσ : σ₂ it = none) (hg : g it = none) (hH : C.H.get? it = none) (hL : it ≠ env.locals) (ho : s.heap.get? it = some o) (hP : P items o s.heap) (hi : Inv σ₂)
    (hcell : ∀ y ∈ scope.names, y.2 ≠ .cell) (hkind : scope.kind = .function) (hlen : items.length ≤ 1000000)
    (h : ∀ Cl, CmpW C (n + 1) (compEnvC scope cl Cl env) target elt ifs Inv QL [] items [] σ₂) (ht : ∀ v, letOwnedTupleGo target (.ref it) v = pure ())
    (hR : ∀ Cl D xs vs σ' s' m, Hd C g env ε σ' s' → TK s.heap s'.heap → PL s'.heap D vs → RVs s'.heap xs vs → s'.heap.Ns Cl m → σ' D = none → g D = none → C.H.get? D = none → D ≠ env.locals →
      σ' Cl = none → g Cl = none → C.H.get? Cl = none → Cl ≠ env.locals → D ≠ Cl → QL xs σ' → RR (.ref D) Cl (.ok .next) s') :
    wpAny C.M A (newList []) (fun acc s₃ => wpAny C.M A (newFunctionEnv scope env.globals cl [] env.qual none .none (some env)) (fun cenv s₄ =>
      codeAny C.M A (.compStart (.ListComp elt [⟨target, iter, ifs, 0⟩] scope pos) 0 (.ref it) acc { cenv with scope := relabel scope env }) (RR acc cenv.locals) s₄) E s₃) E s := by
  refine wpAny_newObj_type (wpAny_newFunctionEnv hcell (by intro y hy; simp at hy) (fun h₁ hns₁ hsb₁ => ?_) hkind)
  dsimp only at hns₁ hsb₁ ⊢
  generalize hH2 : s.heap.push { cls := .type "list", dict := none, data := .seq ([] : List Value).toArray } = H2 at hns₁ hsb₁ ⊢
  have hC : H2.objs.size = s.heap.objs.size + 1 := by rw [← hH2, Heap.size_push]
  have hDC : s.heap.objs.size ≠ H2.objs.size := by rw [hC]; exact Nat.ne_of_lt (Nat.lt_succ_self _)
  have old : ∀ b o, s.heap.get? b = some o → h₁.get? b = some o := fun b o e =>
    hsb₁.extBut b o (by have := Heap.lt_size e; rw [hC]; exact Nat.ne_of_lt (Nat.lt_succ_of_lt this)) (Heap.get?_push_of_some _ (hH2 ▸ Heap.get?_push_of_some _ e))
  have hacc : PL h₁ s.heap.objs.size [] := ⟨0, hsb₁.extBut _ _ hDC (Heap.get?_push_of_some _ (hH2 ▸ Heap.get?_push_size _ rfl))⟩
  have fD := D.fresh (a := s.heap.objs.size) (Nat.le_refl _)
  have fC := D.fresh (a := H2.objs.size) (by rw [hC]; exact Nat.le_succ _)
  have D1 : Hd C g env ε σ₂ { s with heap := h₁, toks := s.toks + ([] : List (Str × Value)).length } :=
    ⟨D.S.grow _ old, D.F.keeps (h' := h₁) (fun _ e => old _ _ e) (TK.of_keeps old) rfl D.F.σL⟩
  obtain ⟨oL, hd, S1, a1, back⟩ := D1.lend hA
  have gl : ∀ b, b ≠ env.locals → g b = none → gadd g env.locals oL b = none := fun b hb e => by simp [gadd, hb, e]
  have hit : it < s.heap.objs.size := Heap.lt_size ho
  have a2 : AOk C (n + 1) (gadd g env.locals oL) (some (compEnvC scope cl H2.objs.size env)) A := by
    obtain ⟨b1, b2, b3, b4⟩ := hA
    obtain ⟨outer, e, f, hh⟩ := b4
    obtain ⟨_, _, _, outer', e', f', _⟩ := a1
    rw [e] at e'; cases e'
    refine ⟨b1, b2, b3, outer, e, fun en hen => ?_, fun en hen => ?_⟩
    · obtain ⟨k1, F, k2, k3, k4⟩ := f' en hen
      exact ⟨k1, F, k2, k3, .inr (k4.resolve_left nofun)⟩
    · cases hen
      obtain ⟨en, h1, h2⟩ := (hh env rfl).2
      refine ⟨fun q => ?_, en, h1, h2⟩
      obtain ⟨k1, F, k2, k3, k4⟩ := f' en h1
      rw [h2] at k2
      have q' : env.frame = some H2.objs.size := q
      rw [q'] at k2; cases k2
      obtain ⟨ob, k5, _⟩ := k4.resolve_left nofun
      rw [gl _ fC.2.2.2 fC.2.1] at k5; cases k5
  have D2 : Hd C (gadd g env.locals oL) (compEnvC scope cl H2.objs.size env) [] σ₂ { s with heap := h₁, toks := s.toks + ([] : List (Str × Value)).length } :=
    ⟨S1, gl _ fC.2.2.2 fC.2.1, fC.2.2.1, fC.1, _, hns₁, fun x V hx => by cases hx⟩
  have loop : ∀ s₃ : Shared, s₃ = { s with heap := h₁, toks := s.toks + ([] : List (Str × Value)).length } →
      codeAny C.M A (.compLoop (.ListComp elt [⟨target, iter, ifs, 0⟩] scope pos) 0 (.ref it) (.ref s.heap.objs.size) (compEnvC scope cl H2.objs.size env)) (RR (.ref s.heap.objs.size) H2.objs.size) s₃ := by
    rintro s₃ rfl
    refine comp_gen (env := compEnvC scope cl H2.objs.size env) K a2 D2 hi hσ (gl _ hL hg) hH (by show it ≠ H2.objs.size; rw [hC]; exact Nat.ne_of_lt (Nat.lt_succ_of_lt hit)) (old _ _ ho) (K.mono _ _ _ _ (TK.of_keeps old) hP) fD.1 (gl _ fD.2.2.2 fD.2.1) fD.2.2.1 hDC
      (Nat.ne_of_lt hit) hacc hlen (h _) (fun xs vs ε' σ' s' D3 k3 hl3 rv3 aσ3 q3 => ?_) ht
    obtain ⟨m, hm, _⟩ := D3.F.ns
    refine hR _ _ xs vs σ' s' m (back _ _ D3.S k3) ((TK.of_keeps old).trans k3) hl3 rv3 hm aσ3 fD.2.1 fD.2.2.1 fD.2.2.2 D3.F.σL fC.2.1 fC.2.2.1 fC.2.2.2 hDC q3
  exact codeAny_compStart_list (loop _ rfl) (K.self (old _ _ ho) (K.mono _ _ _ _ (TK.of_keeps old) hP) (loop _ rfl))
abbrev Qcl (Q : V → Store → Prop) : List V → Store → Prop := fun xs σ₃ => ∀ D, σ₃ D = none → Q (.obj D) (upd σ₃ D (.list xs))
abbrev Qic (C : Cx) (n : Nat) (env : Env) (target elt : Expr) (ifs : List Expr) (scope : Scope) (cl : List (Str × Addr)) (QL : List V → Store → Prop) : List V → (Store → Prop) → Store → Prop := fun items Inv σ₂ => items.length ≤ 1000000 ∧ ∀ Cl, CmpW C (n + 1) (compEnvC scope cl Cl env) target elt ifs Inv QL [] items [] σ₂
theorem EV_ListComp {target iter elt : Expr} {ifs : List Expr} {scope : Scope} {pos : Pos} {cl : List (Str × Addr)}
    (h : IT C (n + 1) env ε iter σ (Qic C n env target elt ifs scope cl (Qcl Q)) X)
    (hclos : closureFor scope env = pure cl := by rfl) (hcell : ∀ y ∈ scope.names, y.2 ≠ .cell := by decide) (hkind : scope.kind = .function := by rfl) (hnames : ∀ y ∈ scope.names, y.2 = .local → scope.names.lookup y.1 = some .local := by decide)
    (ht : ∀ it v, letOwnedTupleGo target (.ref it) v = pure () := by intro _ _; rfl) (hs : ∀ x, foldedSetIterable iter env x = pure x := by intro _; rfl) :
    EV C (n + 1) env ε (.ListComp elt [⟨target, iter, ifs, 0⟩] scope pos) σ Q X := fun A g s hA D => by
  rw [eval_ListComp]
  refine wpAny_comprehension_free (use := none) rfl hs hclos hkind hnames (h.use hA D (fun v x σ₁ s₁ D₁ k₁ r₁ ⟨items, Inv, σ₂, ⟨hi, go⟩, hsub, hi₂, hlen, hw⟩ => go hA.urm D₁ r₁ fun it P o h' tk K D₂ k₂ e1 e2 e3 e4 e5 e6 => ?_) fun _ _ z => z)
  refine comp_in (RR := fun acc Cl => compPost C.M A (PostX C g env s X) none (Post C g env ε s Q) acc Cl) hA (D₂.weaken hsub) K (by
      cases q : σ₂ it with
      | none => rfl
      | some ob => rw [hsub _ _ q] at e1; cases e1) e2 e3 e4 e5 e6 hi₂ hcell hkind hlen hw (ht it) fun Cl Dd xs vs σ' s' m D₃ k₃ hl₃ rv₃ hn₃ d1 d2 d3 d4 c1 c2 c3 c4 hne q => ?_
  obtain ⟨oC, es, ep, hoC, hdC, _⟩ := id hn₃
  refine ⟨m, hn₃, fun h'' hs'' => ?_⟩
  obtain ⟨D₄, k₄⟩ := D₃.other (h' := h'') s'.toks c1 c2 c3 c4 hs'' hoC (NT.dict hdC)
  exact ⟨.obj Dd, _, D₄.add (o := .list xs) d2 d3 d4 ⟨vs, hl₃.extBut hs''.extBut hne, RVs.mono k₄ _ _ rv₃⟩, ((k₁.trans k₂).trans k₃).trans k₄, rv_obj, q Dd d1⟩
end
end Mine
end
section
open PySem PySem.W PyProof.Rows PySem.Calls PySem.Spec
set_option Elab.async false
set_option maxRecDepth 100000
set_option linter.unusedVariables false
namespace Mine
def cellsσ (args : List (Str × V)) (cs : List (Str × Addr)) (σ : Store) : Store := cs.foldr (fun p σ => upd σ p.2 (.cell (args.lookup p.1))) σ
theorem cellsσ_cons {args : List (Str × V)} {x : Str} {a : Addr} {cs} {σ : Store} : cellsσ args ((x, a) :: cs) σ = upd (cellsσ args cs σ) a (.cell (args.lookup x)) := rfl
theorem lookup_not_mem : ∀ {r : List (Str × Value)} {n : Str}, n ∉ r.map (·.1) → r.lookup n = none
  | [], _, _ => rfl
  | (k, v) :: r, n, h => by
    simp only [List.map_cons, List.mem_cons, not_or] at h
    have hb : (n == k) = false := by simpa using h.1
    rw [List.lookup_cons]; simp only [hb]; exact lookup_not_mem h.2
theorem bindL_at {kindOf : Str → Option NameKind} : ∀ {binds : List (Str × Value)} {m : Str → Option Value} {y : Str}, kindOf y = some .local → (binds.map (·.1)).Nodup → bindL kindOf binds m y = (binds.lookup y).or (m y)
  | [], m, y, _, _ => rfl
  | (n, v) :: r, m, y, hk, hn => by
    simp only [List.map_cons, List.nodup_cons] at hn
    unfold bindL
    rw [bindL_at hk hn.2, List.lookup_cons]
    by_cases hy : y = n
    · subst hy
      rw [if_pos hk, lookup_not_mem hn.1]; simp
    · have hb : (y == n) = false := by simpa using hy
      simp only [hb]
      split <;> simp [hy]
theorem bindC_at {kindOf : Str → Option NameKind} : ∀ {binds : List (Str × Value)} {m : Str → Option Value} {y : Str}, kindOf y ≠ some .local → (binds.map (·.1)).Nodup → bindC kindOf binds m y = (binds.lookup y).or (m y)
  | [], m, y, _, _ => rfl
  | (n, v) :: r, m, y, hk, hn => by
    simp only [List.map_cons, List.nodup_cons] at hn
    unfold bindC
    rw [bindC_at hk hn.2, List.lookup_cons]
    by_cases hy : y = n
    · subst hy
      rw [if_neg hk, lookup_not_mem hn.1]; simp
    · have hb : (y == n) = false := by simpa using hy
      simp only [hb]
      split <;> simp [hy]
theorem zip_none {h : Heap} : ∀ {ns : List Str} {xs : List V} {vs : List Value}, RVs h xs vs → ∀ {x : Str}, (ns.zip xs).lookup x = none → (ns.zip vs).lookup x = none
  | [], _, _, _, _, _ => by simp
  | m :: ns, [], _, r, _, _ => by rw [show _ = [] from r]; rfl
  | m :: ns, z :: xs, _, r, x, e => by
    obtain ⟨v, q, rfl, r1, r2⟩ := r
    rw [List.zip_cons_cons, List.lookup_cons] at e ⊢
    by_cases hx : x = m
    · subst hx; simp at e
    · have hb : (x == m) = false := by simpa using hx
      simp only [hb] at e ⊢
      exact zip_none r2 e
theorem zip_keys {α : Type} : ∀ (ns : List Str) (vs : List α), (ns.zip vs).map (·.1) = ns.take vs.length
  | [], _ => by simp
  | _ :: _, [] => by simp
  | n :: ns, v :: vs => by simp [zip_keys ns vs]
theorem nodup_take {α : Type} {l : List α} (n : Nat) (h : l.Nodup) : (l.take n).Nodup := h.sublist (List.take_sublist n l)
section
variable {C : Cx} {g : Gh} {σ σ' : Store} {s s' : Shared} {env : Env} {ε : Loc} {n : Nat} {A : Around} {Q : V → Store → Prop} {X : AX → Store → Prop} {QB : Bool → Store → Prop} {QS : Fl → Loc → Store → Prop} {QA : Loc → Store → Prop} {QL : List V → Store → Prop}
theorem St.cells {args : List (Str × V)} : ∀ {cs : List (Str × Addr)} (S : St C g σ s) (h : ∀ x c, (x, c) ∈ cs → RO C.prog C.w s.heap c (.cell (args.lookup x)) ∧ g c = none ∧ C.H.get? c = none), St C g (cellsσ args cs σ) s
  | [], S, _ => S
  | (x, a) :: cs, S, h => by
    rw [cellsσ_cons]
    obtain ⟨h1, h2, h3⟩ := h x a (.head _)
    exact (St.cells S fun x c hm => h x c (.tail _ hm)).add h2 h3 h1
theorem CALL_cells (O : C.Ok) {name qual : Str} {params : Arguments} {body : List Stmt} {scope : Scope} {dV kV doc pm cdv ct oc : Value} {an od : Option Addr} {osl : Array (Option Value)} {f : Addr} {names : List Str} {args : List V}
    (ho : C.K.lookup f = some ⟨oc, od, .func (fnOf name qual params body scope dV kV doc pm an cdv ct), osl⟩) (hcd : codeIn C.K cdv qual = true)
    (hb : ∀ vs : List Value, vs.length = args.length → bindArgs (fnOf name qual params body scope dV kV doc pm an cdv ct) ⟨vs, []⟩ = pure (names.zip vs)) (hn : names.Nodup)
    (hkind : ∀ y ∈ names, scope.names.lookup y = some .local ∨ (scope.names.lookup y = some .cell ∧ ∀ k, ((cellsFrom k scope.names []).lookup y).isSome = true))
    (hnd : ((cellsFrom 0 scope.names []).map (·.1)).Nodup) (hcn : ∀ y ∈ (cellsFrom 0 scope.names []).map (·.1), scope.names.lookup y ≠ some .local)
    (h : ∀ L, (∀ a, L ≤ a → σ a = none) → TS C n (envOfC qual scope L f cdv) ((names.zip args).filter fun p => scope.names.lookup p.1 == some .local) (execs body (envOfC qual scope L f cdv)) (cellsσ (names.zip args) (cellsFrom (L + 1) scope.names []) σ) (FnPost Q) X)
    (hco : scope.isCoroutine = false := by rfl) (hgen : scope.isGenerator = false := by rfl) (hk : scope.kind = .function := by rfl) :
    CALL C (n + 1) (.ref f) args σ Q X := fun A g s vs a S r => by
  have K := S.K O
  refine codeAny_call_function a.room (K _ _ ho) rfl hco hgen rfl (codeRec_of K hcd) ?_
  rw [hb vs r.length]
  have hnz : ((names.zip vs).map (·.1)).Nodup := by rw [zip_keys]; exact nodup_take _ hn
  refine wpAny_pure (wpAny_newFunctionEnv_cells hk (fun x hx => ?_) fun env' he s' x => ?_)
  · rcases hkind x.1 (List.of_mem_zip hx).1 with h1 | ⟨h1, h2⟩
    · exact .inl h1
    · exact .inr ⟨h1, h2 _⟩
  subst he
  refine ⟨(S.top O).nolimit.keeps x.toInCall.keep, codeAny_func ?_⟩
  obtain ⟨h₁, tk, rfl, _⟩ := x.done
  have hk₁ := x.toInCall.keep
  obtain ⟨f1, f2, f3⟩ := S.fresh (Nat.le_refl _)
  have S1 := S.grow (h' := h₁) tk hk₁
  have k1 : TK s.heap h₁ := .of_keeps hk₁
  have hkeys : ∀ k, (cellsFrom k scope.names []).map (·.1) = (cellsFrom 0 scope.names []).map (·.1) := fun k => cellsFrom_names scope.names k 0 [] [] rfl
  have S2 : St C g (cellsσ (names.zip args) (cellsFrom (s.heap.objs.size + 1) scope.names []) σ) { s with heap := h₁, toks := tk } := S1.cells fun y c hm => by
    have hy : y ∈ (cellsFrom 0 scope.names []).map (·.1) := by rw [← hkeys (s.heap.objs.size + 1)]; exact List.mem_map_of_mem (f := (·.1)) hm
    have hlk := lookup_of_mem_nodup (by rw [hkeys]; exact hnd) hm
    have hc := x.cell y c hlk
    have ha := x.above y c hm
    obtain ⟨c1, c2, c3⟩ := S.fresh (a := c) (Nat.le_of_lt ha)
    have hb := bindC_at (kindOf := Env.kindOf (newEnv scope s.heap.objs.size mainGlobals (cellsFrom (s.heap.objs.size + 1) scope.names []) (qual ++ ".<locals>.") (some f) cdv none builtinsNs)) (m := fun _ => none) (y := y) (hcn y hy) hnz
    rw [Option.or_none] at hb
    refine ⟨⟨_, hc, ?_⟩, c2, c3⟩
    rw [hb]
    cases q : (names.zip args).lookup y with
    | none => exact zip_none r q
    | some X =>
      obtain ⟨v, e1, e2⟩ := zip_rv r q
      exact ⟨v, e1, RV.mono k1 _ _ e2⟩
  have σL : ∀ cs : List (Str × Addr), (∀ y c, (y, c) ∈ cs → s.heap.objs.size < c) → cellsσ (names.zip args) cs σ s.heap.objs.size = none := fun cs => by
    induction cs with
    | nil => intro _; exact f1
    | cons p cs ih => intro hh; rw [cellsσ_cons (x := p.1) (a := p.2), upd_ne _ _ (Nat.ne_of_lt (hh p.1 p.2 (.head _)))]; exact ih fun y c hm => hh y c (.tail _ hm)
  have D : Hd C g (envOfC qual scope s.heap.objs.size f cdv) ((names.zip args).filter fun p => scope.names.lookup p.1 == some .local) (cellsσ (names.zip args) (cellsFrom (s.heap.objs.size + 1) scope.names []) σ) { s with heap := h₁, toks := tk } := by
    refine ⟨S2, f2, f3, σL _ fun y c hm => x.above y c hm, _, x.toInCall.ns, fun y W hy => ?_⟩
    have key : ∀ l : List (Str × V), (l.filter fun p => scope.names.lookup p.1 == some .local).lookup y = some W → l.lookup y = some W ∧ scope.names.lookup y = some .local := fun l => by
      induction l with
      | nil => intro e; cases e
      | cons p l ih =>
        intro e
        rw [List.filter_cons] at e
        rw [List.lookup_cons]
        by_cases hp : y = p.1
        · subst hp
          by_cases hq : (scope.names.lookup p.1 == some .local) = true
          · rw [if_pos hq, List.lookup_cons] at e
            simp at e ⊢
            exact ⟨e, by simpa using hq⟩
          · rw [if_neg hq] at e
            obtain ⟨_, e2⟩ := ih e
            exact absurd (by simpa using e2) hq
        · have hb : (y == p.1) = false := by simpa using hp
          simp only [hb]
          split at e
          · rw [List.lookup_cons] at e; simp only [hb] at e; exact ih e
          · exact ih e
    obtain ⟨e1, e2⟩ := key _ hy
    obtain ⟨v, e3, e4⟩ := zip_rv r e1
    refine ⟨v, ?_, RV.mono k1 _ _ e4⟩
    rw [bindL_at (m := fun _ => none) (by exact e2) hnz, e3]; rfl
  have a' : AOk C n g (some (envOfC qual scope s.heap.objs.size f cdv)) (A.deeper (envOfC qual scope s.heap.objs.size f cdv)) := a.deep rfl hk f3
  exact leave_out (s₀ := s) (R := RC C g s Q X) a' rfl k1 (h s.heap.objs.size (fun b hb => (S.fresh hb).1) _ g _ a' D) fun r s' q => by
    cases r with
    | error e => exact q
    | ok fl => cases fl <;> exact q
theorem CALL_clos (O : C.Ok) {name qual : Str} {params : Arguments} {body : List Stmt} {scope : Scope} {cl : List (Str × Addr)} {doc pm ctv : Value} {c' f : Addr} {oc : Obj} {ws : Array Value} {t : Tok} {names : List Str} {args : List V}
    (ho : σ f = some (.raw (fnMade name qual params body scope cl doc pm c' ctv))) (hc : σ c' = some (.raw oc)) (hd : oc.data = .fields ws) (hv : ws[1]? = some (.str qual t))
    (hb : ∀ vs : List Value, vs.length = args.length → bindArgs (fnX name qual params body scope cl .none .none doc pm none (.ref c') ctv) ⟨vs, []⟩ = pure (names.zip vs)) (hn : names.Nodup)
    (hloc : ∀ y ∈ names, scope.names.lookup y = some .local)
    (h : ∀ L, (∀ a, L ≤ a → σ a = none) → TS C n (envX qual scope L f (.ref c') cl) (names.zip args) (execs body (envX qual scope L f (.ref c') cl)) σ (FnPost Q) X)
    (hco : scope.isCoroutine = false := by rfl) (hgen : scope.isGenerator = false := by rfl) (hk : scope.kind = .function := by rfl) (hcell : ∀ x ∈ scope.names, x.2 ≠ .cell := by decide) :
    CALL C (n + 1) (.ref f) args σ Q X := fun A g s vs a S r => by
  refine codeAny_call_def (fd := fnX name qual params body scope cl .none .none doc pm none (.ref c') ctv) (body := body) (binds := names.zip vs) a.room (S.sim f _ ho) rfl (S.top O).nolimit ⟨c', oc, ws, t, rfl, S.sim c' _ hc, hd, hv⟩ rfl (BindsTo.of_eq (hb vs r.length)) hcell
    (fun y hy => hloc _ (List.of_mem_zip hy).1) (fun h₁ hns hk₁ => ?_) hco hgen hk
  obtain ⟨f1, f2, f3⟩ := S.fresh (Nat.le_refl _)
  have S1 := S.grow (h' := h₁) (s.toks + (names.zip vs).length) hk₁
  have k1 : TK s.heap h₁ := .of_keeps hk₁
  have D : Hd C g (envX qual scope s.heap.objs.size f (.ref c') cl) (names.zip args) σ { s with heap := h₁, toks := s.toks + (names.zip vs).length } :=
    ⟨S1, f2, f3, f1, _, hns, fun x V hx => by
      obtain ⟨v, e1, e2⟩ := zip_rv r hx
      exact ⟨v, (zip_lookup hn x).trans e1, RV.mono k1 _ _ e2⟩⟩
  have a' : AOk C n g (some (envX qual scope s.heap.objs.size f (.ref c') cl)) (A.deeper (envX qual scope s.heap.objs.size f (.ref c') cl)) := a.deep rfl hk f3
  exact leave_out (s₀ := s) (R := RC C g s Q X) a' rfl k1 (h s.heap.objs.size (fun b hb => (S.fresh hb).1) _ g _ a' D) fun r s' q => by
    cases r with
    | error e => exact q
    | ok fl => cases fl <;> exact q
theorem builtins_at (O : C.Ok) (S : St C g σ s) {P : Addr} {ob : Obj} (hP : σ P = some (.raw ob)) : mainGlobals ≠ P ∧ s.heap.BuiltinsAt C.mg P := by
  have T := S.top O
  have hH := S.hσ P (by rw [hP]; exact nofun)
  obtain ⟨bm, ob', b1, b2, b3, b4, b5, b6⟩ := O.T.bmain
  have hgP : mainGlobals ≠ P := fun q => by
    obtain ⟨o, es, ep, e, hd, _⟩ := O.T.g
    rw [q, hH] at e; cases e
  have hbP : bm ≠ P := fun q => by rw [q, hH] at b3; cases b3
  have hbG : bm ≠ mainGlobals := fun q => by
    obtain ⟨o, es, ep, e, hd, _⟩ := O.T.g
    rw [q, e] at b3; cases b3; rw [hd] at b6; cases b6
  exact ⟨hgP, bm, ob', b1, b2, hbG, hbP, S.base _ _ b3, b4, b5, b6⟩
theorem Hd.made (D : Hd C g env ε σ s) {P c' : Addr} {ps : Array Value} {h' : Heap} {tk : Tok} {oc fo oT : Obj} (hP : σ P = some (.raw (tabObj ps))) (hx : Heap.ExtBut P s.heap h') (hge : s.heap.objs.size ≤ c') (hlt : c' < h'.objs.size)
    (hoc : h'.get? c' = some oc) (hT : h'.get? P = some oT) (hf : fo.isFreed = false) :
    σ c' = none ∧ σ h'.objs.size = none ∧ c' ≠ h'.objs.size ∧ Hd C g env ε (upd (upd (upd σ P (.raw oT)) c' (.raw oc)) h'.objs.size (.raw fo)) { s with heap := h'.push fo, toks := tk } ∧ TK s.heap (h'.push fo) := by
  have hPs := D.S.sim P _ hP
  have hg : g P = none := D.S.gσ P (by rw [hP]; exact nofun)
  have hH := D.S.hσ P (by rw [hP]; exact nofun)
  have hL : P ≠ env.locals := fun q => by have := D.F.σL; rw [← q, hP] at this; cases this
  have fc := D.fresh hge
  have ff := D.fresh (a := h'.objs.size) (Nat.le_of_lt (Nat.lt_of_le_of_lt hge hlt))
  have hPn : NT (tabObj ps) := NT.fields rfl
  have k : TK s.heap h' := fun b x e c ⟨xs, m, d⟩ => hx b x (fun q => by subst q; rw [show s.heap.get? b = some (tabObj ps) from hPs] at e; cases e; exact hPn xs m d c) e
  -- P is dropped first
  have S0 : St C g (drop σ P) { s with heap := h', toks := tk } := by
    refine ⟨fun b x e => hx b x (fun q => by rw [q, hH] at e; cases e) (D.S.base b x e), fun b x e => let ⟨o', q, z⟩ := D.S.gs b x e; ⟨o', hx b o' (fun q => by rw [q, hg] at e; cases e) q, z⟩, D.S.gt, fun b x e => ?_, fun b e => ?_, fun b e => ?_, D.S.gh, D.S.gens, D.S.os⟩
    · by_cases hb : b = P
      · subst hb; simp [drop] at e
      · rw [drop_ne _ hb] at e
        obtain ⟨ob, q⟩ := (D.S.sim b x e).there
        exact (D.S.sim b x e).mono_of k ((hx b ob hb q).trans q.symm)
    · by_cases hb : b = P
      · subst hb; simp [drop] at e
      · rw [drop_ne _ hb] at e; exact D.S.gσ b e
    · by_cases hb : b = P
      · subst hb; simp [drop] at e
      · rw [drop_ne _ hb] at e; exact D.S.hσ b e
  have dL : drop σ P env.locals = none := by rw [drop_ne _ (Ne.symm hL)]; exact D.F.σL
  have D0 : Hd C g env ε (drop σ P) { s with heap := h', toks := tk } := ⟨S0, D.F.keeps (h' := h') (fun o e => hx _ _ (Ne.symm hL) e) k rfl dL⟩
  have D1 := D0.add (a := P) (o := .raw oT) hg hH hL hT
  rw [upd_drop] at D1
  have D2 := D1.add (a := c') (o := .raw oc) fc.2.1 fc.2.2.1 fc.2.2.2 hoc
  have D3 := (D2.push fo tk).add (a := h'.objs.size) (o := .raw fo) ff.2.1 ff.2.2.1 ff.2.2.2 (Heap.get?_push_size _ hf)
  exact ⟨fc.1, ff.1, Nat.ne_of_lt hlt, D3, k.trans (TK.push _ _)⟩
theorem TS_Def (O : C.Ok) {name : Str} {params : Arguments} {body : List Stmt} {scope : Scope} {pos : Pos} {clos : List (Str × Addr)} {c P : Addr} {ps : Array Value}
    (hcode : env.code = .ref c) (hC : CodeHd C.H c P) (hP : σ P = some (.raw (tabObj ps))) (ht : TriplesOk ps.toList) (hnf : codeAmong pos ps.toList = none) (hcl : closureFor scope env = pure clos) (hge0 : env.globals = mainGlobals)
    (hd0 : params.defaults = []) (hk0 : params.kw_defaults = []) (ha : annTrees params none env = [])
    (h : ∀ f c' oc ws t doc pm ctv, σ c' = none → σ f = none → c' ≠ f → oc.data = .fields ws → ws[1]? = some (.str (qualnameIn env name name) t) →
      SN C n env ε name (.obj f) (upd (upd (upd σ P (.raw (tabObj (ps ++ #[rawInt pos.line, rawInt pos.col, .ref c'])))) c' (.raw oc)) f (.raw (fnMade name (qualnameIn env name name) params body scope clos doc pm c' ctv))) QS X) :
    TS C n env ε (exec (.FunctionDef name params body [] none [] scope none name pos) env) σ QS X := fun A g s a D => by
  obtain ⟨hgP, hb⟩ := builtins_at O D.S hP
  refine nestDef_K hd0 hk0 ha (makeFunction_K (mg := C.mg) hcl hge0 (D.S.top O).g hcode (hC.keeps D.S.base) (D.S.sim P _ hP) ht hnf hgP hb fun c' ctv doc h' tk hx hge hlt hrec htb => ?_)
  obtain ⟨c₂, oc, ws, t, e2, hoc, hd, hv⟩ := hrec
  cases e2
  obtain ⟨e1, e2, e3, D', k⟩ := D.made (tk := tk) (fo := fnMade name (qualnameIn env name name) params body scope clos doc ((C.mg "__name__").getD .none) c' ctv) hP hx hge hlt hoc htb rfl
  exact wpAny_mono (h _ c' oc ws t doc _ ctv e1 e2 e3 hd hv A g _ _ a D' rv_obj) (fun _ _ z => z.trans k) fun _ _ z => z.trans k
end
end Mine
end
section
open PySem PySem.W PyProof.Rows PySem.Calls PySem.Spec
set_option Elab.async false
set_option maxRecDepth 100000
set_option linter.unusedVariables false
namespace Mine
section
variable {K : Type} [DecidableEq K]
def storedA (es : List (K × V)) (k : K) (x : V) : List (K × V) := if es.any (fun kv => kv.1 = k) then es.map (fun kv => if kv.1 = k then (kv.1, x) else kv) else es ++ [(k, x)]
def valueA (es : List (K × V)) (k : K) : Option V := (es.find? fun kv => kv.1 = k).map (·.2)
theorem RPairs.any {h : Heap} {k : K} : ∀ {es : List (K × V)} {kvs : List (K × Value)}, RPairs h es kvs → (kvs.any fun kv => decide (kv.1 = k)) = es.any fun kv => decide (kv.1 = k)
  | [], _, r => by rw [show _ = [] from r]; rfl
  | (a, x) :: es, _, r => by obtain ⟨v, q, rfl, _, r2⟩ := r; simp only [List.any_cons, RPairs.any r2]
theorem RPairs.put {h : Heap} {k : K} {x : V} {v : Value} (rv : RV h x v) : ∀ {es : List (K × V)} {kvs : List (K × Value)}, RPairs h es kvs → RPairs h (es.map fun kv => if kv.1 = k then (kv.1, x) else kv) (kvs.map fun kv => if kv.1 = k then (kv.1, v) else kv)
  | [], _, r => by rw [show _ = [] from r]; rfl
  | (a, y) :: es, _, r => by
    obtain ⟨w, q, rfl, r1, r2⟩ := r
    simp only [List.map_cons]
    by_cases e : a = k
    · simp only [e, if_true]; exact ⟨v, _, rfl, rv, RPairs.put rv r2⟩
    · simp only [e, if_false]; exact ⟨w, _, rfl, r1, RPairs.put rv r2⟩
theorem RPairs.snoc {h : Heap} {k : K} {x : V} {v : Value} (rv : RV h x v) : ∀ {es : List (K × V)} {kvs : List (K × Value)}, RPairs h es kvs → RPairs h (es ++ [(k, x)]) (kvs ++ [(k, v)])
  | [], _, r => by rw [show _ = [] from r]; exact ⟨v, [], rfl, rv, rfl⟩
  | (a, y) :: es, _, r => by obtain ⟨w, q, rfl, r1, r2⟩ := r; exact ⟨w, _, rfl, r1, RPairs.snoc rv r2⟩
theorem RPairs.stored {h : Heap} {k : K} {x : V} {v : Value} (rv : RV h x v) {es : List (K × V)} {kvs : List (K × Value)} (r : RPairs h es kvs) : RPairs h (storedA es k x) (stored kvs k v) := by
  unfold storedA PySem.stored
  rw [r.any]
  split
  · exact r.put rv
  · exact r.snoc rv
theorem RPairs.valueAt {h : Heap} {k : K} : ∀ {es : List (K × V)} {kvs : List (K × Value)}, RPairs h es kvs → (match valueA es k with | some x => ∃ v, valueAt kvs k = some v ∧ RV h x v | none => valueAt kvs k = none)
  | [], _, r => by rw [show _ = [] from r]; rfl
  | (a, y) :: es, _, r => by
    obtain ⟨w, q, rfl, r1, r2⟩ := r
    have ih := RPairs.valueAt (k := k) r2
    unfold valueA PySem.valueAt at *
    simp only [List.find?_cons]
    by_cases e : a = k
    · simp only [e, decide_true]; exact ⟨w, rfl, r1⟩
    · simp only [e, decide_false]; exact ih
end
def RPV (h : Heap) : List (V × V) → List (Value × Value) → Prop
  | [], vs => vs = []
  | (k, x) :: l, vs => ∃ kv v r, vs = (kv, v) :: r ∧ RV h k kv ∧ RV h x v ∧ RPV h l r
theorem RPV.ints {prog : Program} {w : World} {h : Heap} : ∀ {es : List (Int × V)} {vs : List (Value × Value)}, RPV h (es.map fun p => (.int p.1, p.2)) vs → ∃ kvs, Carries (intKind prog w) vs kvs ∧ RPairs h es kvs ∧ kvs.map (·.1) = es.map (·.1)
  | [], _, r => by rw [show _ = [] from r]; exact ⟨[], trivial, rfl, rfl⟩
  | (a, x) :: es, _, r => by
    obtain ⟨kv, v, q, rfl, ⟨t, rfl⟩, r2, r3⟩ := r
    obtain ⟨kvs, c, p, e⟩ := RPV.ints (prog := prog) (w := w) r3
    exact ⟨(a, v) :: kvs, ⟨by simp [intKind, Value.isInt], rfl, c⟩, ⟨v, kvs, rfl, r2, p⟩, by simp [e]⟩
structure TP (C : Cx) (n : Nat) (env : Env) (ε : Loc) (ks : List (Option Expr)) (vs : List Expr) (pos : Pos) (σ : Store) (Q : List (V × V) → Store → Prop) (X : AX → Store → Prop) : Prop where
  run : ∀ A g s, AOk C n g (some env) A → Hd C g env ε σ s → wpAny C.M A (evalPairs (pairTrees ks vs env pos)) (fun ws s' => ∃ xs σ', Hd C g env ε σ' s' ∧ TK s.heap s'.heap ∧ RPV s'.heap xs ws ∧ Q xs σ') (PostX C g env s X) s
section
variable {C : Cx} {g : Gh} {σ σ' : Store} {s s' : Shared} {env : Env} {ε : Loc} {n : Nat} {A : Around} {Q : V → Store → Prop} {X : AX → Store → Prop} {QB : Bool → Store → Prop} {QS : Fl → Loc → Store → Prop} {QA : Loc → Store → Prop} {QL : List V → Store → Prop} {QP : List (V × V) → Store → Prop}
theorem fresh_mod (O : C.Ok) (S : St C g σ s) {a : Addr} (ha : s.heap.objs.size ≤ a) : (a == sysModules) = false := by
  have := modules_low (S.top O).nolimit
  rw [beq_eq_false_iff_ne]; intro q; subst q; exact absurd this (Nat.not_lt.mpr ha)
abbrev Qtup (Q : V → Store → Prop) : List V → Store → Prop := fun xs σ₁ => xs.length ≤ 1000000 ∧ Q (.tup xs) σ₁
theorem EV_Tuple {es : List Expr} {k : Nat} {pos : Pos} (h : TL C n env ε (spliced (backTo pos (starEach es env))) σ (Qtup Q) X) : EV C n env ε (.Tuple es k pos) σ Q X := fun A g s a D =>
  wpAny_Tuple (wpAny_mono (h A g s a D) (fun vs s₁ ⟨xs, σ₁, D₁, k₁, r₁, hl, q⟩ => ⟨by rw [r₁.length, sizeLine_eq]; omega, .tup xs, σ₁, D₁.push _ s₁.toks, k₁.trans (TK.push _ _), rv_tup ⟨_, Heap.get?_push_size _ rfl, rfl, _, rfl⟩ (RVs.mono (TK.push _ _) _ _ r₁), q⟩) fun _ _ z => z)
abbrev Qlst (Q : V → Store → Prop) : List V → Store → Prop := fun xs σ₁ => xs.length ≤ 1000000 ∧ ∀ l, σ₁ l = none → Q (.obj l) (upd σ₁ l (.list xs))
theorem EV_List {es : List Expr} {pos : Pos} (h : TL C n env ε (spliced (backTo pos (starEach es env))) σ (Qlst Q) X) : EV C n env ε (.List es pos) σ Q X := fun A g s a D =>
  wpAny_List (wpAny_mono (h A g s a D) (fun vs s₁ ⟨xs, σ₁, D₁, k₁, r₁, hl, q⟩ => ⟨by rw [r₁.length, sizeLine_eq]; omega, by
    obtain ⟨f1, D₂, k₂⟩ := D₁.alloc { cls := .type "list", data := .seq vs.toArray } s₁.toks (x := .list xs) ⟨vs, PL.new _ _ _, RVs.mono (TK.push _ _) _ _ r₁⟩
    exact ⟨.obj _, _, D₂, k₁.trans k₂, rv_obj, q _ f1⟩⟩) fun _ _ z => z)
theorem EV_Dict0S (O : C.Ok) {pos : Pos} (h : ∀ d, σ d = none → Q (.obj d) (upd σ d (.dictS [] 0))) : EV C n env ε (.Dict [] [] pos) σ Q X := fun A g s a D => by
  refine wpAny_Dict_empty ?_
  obtain ⟨f1, D₂, k₂⟩ := D.alloc { cls := .type "dict", data := .dict #[] } s.toks (x := .dictS [] 0) ⟨fresh_mod O D.S (Nat.le_refl _), [], ⟨_, #[], Heap.get?_push_size _ rfl, ⟨rfl, rfl, rfl⟩, rfl, fun _ he => by simp at he, Pairs.nil, List.nodup_nil⟩, rfl⟩
  exact ⟨.obj _, _, D₂, k₂, rv_obj, h _ f1⟩
theorem EV_Dict0I (O : C.Ok) {pos : Pos} (h : ∀ d, σ d = none → Q (.obj d) (upd σ d (.dictI [] 0))) : EV C n env ε (.Dict [] [] pos) σ Q X := fun A g s a D => by
  refine wpAny_Dict_empty ?_
  obtain ⟨f1, D₂, k₂⟩ := D.alloc { cls := .type "dict", data := .dict #[] } s.toks (x := .dictI [] 0) ⟨fresh_mod O D.S (Nat.le_refl _), [], ⟨_, #[], Heap.get?_push_size _ rfl, ⟨rfl, rfl, rfl⟩, rfl, fun _ he => by simp at he, Pairs.nil, List.nodup_nil⟩, rfl⟩
  exact ⟨.obj _, _, D₂, k₂, rv_obj, h _ f1⟩
theorem TP_nil {pos : Pos} (h : QP [] σ) : TP C n env ε [] [] pos σ QP X := ⟨fun A g s a D => pairTrees_nil_walk ⟨[], σ, D, TK.refl _, rfl, h⟩⟩
theorem TP_cons {k v : Expr} {ks : List (Option Expr)} {vs : List Expr} {pos : Pos} (h : EV C n env ε k σ (fun x σ₁ => EV C n env ε v σ₁ (fun y σ₂ => TP C n env ε ks vs pos σ₂ (fun xs => QP ((x, y) :: xs)) X) X) X) : TP C n env ε (some k :: ks) (v :: vs) pos σ QP X := ⟨fun A g s a D =>
  pairTrees_cons_walk (h.use a D (fun kv x σ₁ s₁ D₁ k₁ r₁ h₁ => h₁.use a D₁ (fun vv y σ₂ s₂ D₂ k₂ r₂ h₂ => wpAny_mono (h₂.run A g s₂ a D₂) (fun ws s₃ ⟨xs, σ₃, D₃, k₃, r₃, q⟩ =>
    ⟨(x, y) :: xs, σ₃, D₃, (k₁.trans k₂).trans k₃, ⟨kv, vv, ws, rfl, RV.mono (k₂.trans k₃) _ _ r₁, RV.mono k₃ _ _ r₂, r₃⟩, q⟩) fun _ _ z => z.trans (k₁.trans k₂)) fun _ _ z => z.trans k₁) fun _ _ z => z)⟩
inductive DsP (Q : V → Store → Prop) (d : Addr) (xs : List (V × V)) (σ₁ : Store) : Prop
  | mk (es : List (Str × V)) (e : xs = es.map (fun p => (.str p.1, p.2))) (hn : (es.map (·.1)).Nodup) (hd : σ₁ d = some (.dictS [] 0)) (q : ∀ ep, Q (.obj d) (upd σ₁ d (.dictS es ep)))
theorem EV_DictI (O : C.Ok) {ks : List (Option Expr)} {vs : List Expr} {pos : Pos} (h : ∀ d, σ d = none → TP C n env ε ks vs pos (upd σ d (.dictI [] 0)) (fun xs σ₁ => ∃ es : List (Int × V), xs = es.map (fun p => (.int p.1, p.2)) ∧ (es.map (·.1)).Nodup ∧ σ₁ d = some (.dictI [] 0) ∧ ∀ ep, Q (.obj d) (upd σ₁ d (.dictI es ep))) X)
    (hall : ks.all (·.isSome) = true := by rfl) (hl : ks.length = vs.length := by rfl) (h0 : ks ≠ [] := by exact nofun) (hlen : ks.length ≤ 15 := by decide) : EV C n env ε (.Dict ks vs pos) σ Q X := fun A g s a D => by
  refine wpAny_Dict_walk (knd := intKind C.prog C.w) hall hl h0 hlen ?_
  obtain ⟨f1, D1, k1⟩ := D.alloc { cls := .type "dict", data := .dict #[] } s.toks (x := .dictI [] 0) ⟨fresh_mod O D.S (Nat.le_refl _), [], ⟨_, #[], Heap.get?_push_size _ rfl, ⟨rfl, rfl, rfl⟩, rfl, fun _ he => by simp at he, Pairs.nil, List.nodup_nil⟩, rfl⟩
  refine wpAny_mono ((h _ f1).run A _ _ a D1) (fun ws s₁ ⟨xs, σ₁, D₂, k₂, r₂, es, e, hn, hd, q⟩ => ?_) fun _ _ z => z.trans k1
  subst e
  obtain ⟨kvs, c, p, ek⟩ := RPV.ints (prog := C.prog) (w := C.w) r₂
  obtain ⟨hsys, kv0, hD, hr0⟩ := D₂.S.sim _ _ hd
  rw [show kv0 = [] from hr0] at hD
  refine ⟨kvs, c, hD.dictOf, fun h' hd' hs' => ?_⟩
  rw [merged_nil_of_nodup _ (by rw [ek]; exact hn)] at hd'
  obtain ⟨ep, hda⟩ := hd'.dictAt
  obtain ⟨o, es', ho, _, hdd, _⟩ := id hD
  obtain ⟨D₃, k₃⟩ := D₂.set (h' := h') (x := .dictI es ep) (s₁.toks + ws.length) hd hs' ho (NT.dict hdd) fun k => ⟨hsys, kvs, hda, p.mono k⟩
  exact ⟨.obj _, _, D₃, (k1.trans k₂).trans k₃, rv_obj, q ep⟩
theorem EV_Sub {value slice : Expr} {pos : Pos} (h : EV C n env ε value σ (Qe2 C n env ε slice (subscriptTail value slice) Q X) X) : EV C n env ε (.Subscript value slice pos) σ Q X := fun A g s a D =>
  Subscript_ (h.use a D (fun v x σ₁ s₁ D₁ k₁ r₁ h₁ => h₁.use a D₁ (fun w y σ₂ s₂ D₂ k₂ r₂ h₂ => wpAny_mono (h₂ A g s₂ v w a D₂ (RV.mono k₂ _ _ r₁) r₂) (fun _ _ z => z.trans (k₁.trans k₂)) fun _ _ z => z.trans (k₁.trans k₂))
    fun _ _ z => z.trans k₁) fun _ _ z => z)
theorem sub_tup {value slice : Expr} {l : List V} {k : Int} {j : Nat} {x : V} (hj : seqIndex? k l.length = some j) (hx : l[j]? = some x) (h : Q x σ) (hlo : -(2 ^ 63) ≤ k := by omega) (hhi : k < 2 ^ 63 := by omega)
    (hs : ∀ o i, subscripted slice false o i = operate [o, i] (getItem o i) := by intro _ _; with_unfolding_all rfl) : OP2 C n env ε (subscriptTail value slice) (.tup l) (.int k) σ Q X := fun A g s v w a D r r' => by
  obtain ⟨t, vs, rfl, ht, hv⟩ := r
  obtain ⟨u, rfl⟩ := r'
  obtain ⟨v, e1, e2⟩ := hv.get hx
  exact tail_any ht.typeIs slot_tuple_getitem.lookup (getItem_tuple ht hlo hhi (by rw [List.size_toArray, hv.length]; exact hj) (by simpa using e1) (pp D e2 h)) (hs _ _)
theorem sub_list {value slice : Expr} {a : Addr} {l : List V} {k : Int} {x : V} (hl : σ a = some (.list l)) (h0 : 0 ≤ k) (hx : l[k.toNat]? = some x) (h : Q x σ) (hhi : k < 2 ^ 63 := by omega)
    (hs : ∀ o i, subscripted slice false o i = operate [o, i] (getItem o i) := by intro _ _; with_unfolding_all rfl) : OP2 C n env ε (subscriptTail value slice) (.obj a) (.int k) σ Q X := fun A g s v w hA D r r' => by
  rw [show v = _ from r]
  obtain ⟨u, rfl⟩ := r'
  obtain ⟨vs, hls, hv⟩ := D.S.sim a _ hl
  obtain ⟨v, e1, e2⟩ := hv.get hx
  exact tail_any hls.isList.typeIs slot_list_getitem.lookup (wpAny_getItem_list hls.isList h0 hhi (by simpa using e1) (pp D e2 h)) (hs _ _)
theorem sub_dictS {value slice : Expr} {a : Addr} {es : List (Str × V)} {ep : Nat} {k : Str} {x : V} (hl : σ a = some (.dictS es ep)) (hx : valueA es k = some x) (h : Q x σ)
    (hs : ∀ o i, subscripted slice false o i = operate [o, i] (getItem o i) := by intro _ _; with_unfolding_all rfl) : OP2 C n env ε (subscriptTail value slice) (.obj a) (.str k) σ Q X := fun A g s v w hA D r r' => by
  rw [show v = _ from r]
  obtain ⟨u, rfl⟩ := r'
  obtain ⟨hsys, kvs, hd, hp⟩ := D.S.sim a _ hl
  have z := hp.valueAt (k := k)
  rw [hx] at z
  obtain ⟨v, e1, e2⟩ := z
  exact tail_any hd.dictOf.typeIs slot_dict_getitem.lookup (wpAny_getItem_of (knd := PySem.strKind C.prog C.w) (k := k) (by simp [PySem.strKind, Value.isStrOf]) hd.dictOf.mapOf e1 (ppt D _ e2 h)) (hs _ _)
theorem sub_dictI {value slice : Expr} {a : Addr} {es : List (Int × V)} {ep : Nat} {k : Int} {x : V} (hl : σ a = some (.dictI es ep)) (hx : valueA es k = some x) (h : Q x σ)
    (hs : ∀ o i, subscripted slice false o i = operate [o, i] (getItem o i) := by intro _ _; with_unfolding_all rfl) : OP2 C n env ε (subscriptTail value slice) (.obj a) (.int k) σ Q X := fun A g s v w hA D r r' => by
  rw [show v = _ from r]
  obtain ⟨u, rfl⟩ := r'
  obtain ⟨hsys, kvs, hd, hp⟩ := D.S.sim a _ hl
  have z := hp.valueAt (k := k)
  rw [hx] at z
  obtain ⟨v, e1, e2⟩ := z
  exact tail_any hd.dictOf.typeIs slot_dict_getitem.lookup (wpAny_getItem_of (knd := intKind C.prog C.w) (k := k) (by simp [intKind, Value.isInt]) hd.dictOf.mapOf e1 (ppt D _ e2 h)) (hs _ _)
theorem in_dictS {a : Addr} {es : List (Str × V)} {ep : Nat} {k : Str} (hl : σ a = some (.dictS es ep)) (h : Q (.bool (valueA es k).isSome) σ) : OP2 C n env ε (compareOp .In) (.str k) (.obj a) σ Q X := fun A g s v w hA D r r' => by
  rw [show w = _ from r']
  obtain ⟨u, rfl⟩ := r
  obtain ⟨hsys, kvs, hd, hp⟩ := D.S.sim a _ hl
  have e : (valueAt kvs k).isSome = (valueA es k).isSome := by
    have z := hp.valueAt (k := k)
    cases q : valueA es k with
    | none => rw [q] at z; rw [z]; rfl
    | some x => rw [q] at z; obtain ⟨v, e1, _⟩ := z; rw [e1]; rfl
  exact wpAny_in_of (knd := PySem.strKind C.prog C.w) (k := k) (by simp [PySem.strKind, Value.isStrOf]) hsys hd.dictOf.mapOf (ppt D _ (show RV s.heap (.bool (valueA es k).isSome) _ by rw [e]; rfl) h)
def OPU (C : Cx) (n : Nat) (env : Env) (ε : Loc) (o i x : V) (σ : Store) (QU : Store → Prop) (X : AX → Store → Prop) : Prop :=
  ∀ A g s vo vi v, AOk C n g (some env) A → Hd C g env ε σ s → RV s.heap o vo → RV s.heap i vi → RV s.heap x v → wpAny C.M A (setItem vo vi v) (fun _ s' => ∃ σ', Hd C g env ε σ' s' ∧ TK s.heap s'.heap ∧ QU σ') (PostX C g env s X) s
abbrev Qss3 (C : Cx) (n : Nat) (env : Env) (ε : Loc) (x ov : V) (QS : Fl → Loc → Store → Prop) (X : AX → Store → Prop) : V → Store → Prop := fun iv σ₃ => OPU C n env ε ov iv x σ₃ (QS .next ε) X
abbrev Qss2 (C : Cx) (n : Nat) (env : Env) (ε : Loc) (i : Expr) (x : V) (QS : Fl → Loc → Store → Prop) (X : AX → Store → Prop) : V → Store → Prop := fun ov σ₂ => EV C n env ε i σ₂ (Qss3 C n env ε x ov QS X) X
abbrev Qss1 (C : Cx) (n : Nat) (env : Env) (ε : Loc) (o i : Expr) (QS : Fl → Loc → Store → Prop) (X : AX → Store → Prop) : V → Store → Prop := fun x σ₁ => EV C n env ε o σ₁ (Qss2 C n env ε i x QS X) X
theorem TS_SetSub {o i e : Expr} {p' pos : Pos} (h : EV C n env ε e σ (Qss1 C n env ε o i QS X) X)
    (hs : swapsWith e (some (.Subscript o i p')) pos.line env = pure false := by rfl) : TS C n env ε (exec (.Assign [.Subscript o i p'] e pos) env) σ QS X := fun A g s a D =>
  wpAny_Assign_Subscript (h.use a D (fun v x σ₁ s₁ D₁ k₁ r₁ h₁ => h₁.use a D₁ (fun vo ov σ₂ s₂ D₂ k₂ r₂ h₂ => h₂.use a D₂ (fun vi iv σ₃ s₃ D₃ k₃ r₃ h₃ => wpAny_mono (h₃ A g s₃ vo vi v a D₃ (RV.mono k₃ _ _ r₂) r₃ (RV.mono (k₂.trans k₃) _ _ r₁))
    (fun _ s₄ ⟨σ₄, D₄, k₄, q⟩ => ⟨.next, ε, σ₄, D₄, ((k₁.trans k₂).trans k₃).trans k₄, rfl, q⟩) fun _ _ z => z.trans ((k₁.trans k₂).trans k₃)) fun _ _ z => z.trans (k₁.trans k₂)) fun _ _ z => z.trans k₁) fun _ _ z => z) hs
theorem set_dictS {a : Addr} {es : List (Str × V)} {ep : Nat} {k : Str} {x : V} {QU : Store → Prop} (hl : σ a = some (.dictS es ep)) (hz : es.length ≤ 1000000) (h : ∀ ep', QU (upd σ a (.dictS (storedA es k x) ep'))) : OPU C n env ε (.obj a) (.str k) x σ QU X := fun A g s vo vi v hA D r r' r'' => by
  rw [show vo = _ from r]
  obtain ⟨u, rfl⟩ := r'
  obtain ⟨hsys, kvs, hd, hp⟩ := D.S.sim a _ hl
  refine wpAny_setItem_pairs (knd := PySem.strKind C.prog C.w) (k := k) (by simp [PySem.strKind, Value.isStrOf]) hd.dictOf (fun h' hd' hs' => ?_) (by rw [hp.length, sizeLine_eq]; omega)
  obtain ⟨ep', hda⟩ := hd'.dictAt
  obtain ⟨o, es', ho, _, hdd, _⟩ := id hd
  obtain ⟨D₃, k₃⟩ := D.set (h' := h') (x := .dictS (storedA es k x) ep') (s.toks + 1) hl hs' ho (NT.dict hdd) fun k => ⟨hsys, _, hda, (hp.stored r'').mono k⟩
  exact ⟨_, D₃, k₃, h ep'⟩
theorem set_dictI {a : Addr} {es : List (Int × V)} {ep : Nat} {k : Int} {x : V} {QU : Store → Prop} (hl : σ a = some (.dictI es ep)) (hz : es.length ≤ 1000000) (h : ∀ ep', QU (upd σ a (.dictI (storedA es k x) ep'))) : OPU C n env ε (.obj a) (.int k) x σ QU X := fun A g s vo vi v hA D r r' r'' => by
  rw [show vo = _ from r]
  obtain ⟨u, rfl⟩ := r'
  obtain ⟨hsys, kvs, hd, hp⟩ := D.S.sim a _ hl
  refine wpAny_setItem_pairs (knd := intKind C.prog C.w) (k := k) (by simp [intKind, Value.isInt]) hd.dictOf (fun h' hd' hs' => ?_) (by rw [hp.length, sizeLine_eq]; omega)
  obtain ⟨ep', hda⟩ := hd'.dictAt
  obtain ⟨o, es', ho, _, hdd, _⟩ := id hd
  obtain ⟨D₃, k₃⟩ := D.set (h' := h') (x := .dictI (storedA es k x) ep') (s.toks + 1) hl hs' ho (NT.dict hdd) fun k => ⟨hsys, _, hda, (hp.stored r'').mono k⟩
  exact ⟨_, D₃, k₃, h ep'⟩
def EP (C : Cx) (n : Nat) (env : Env) (ε : Loc) (e : Option Expr) (σ : Store) (Q : Option Int → Store → Prop) (X : AX → Store → Prop) : Prop := match e with
  | none => Q none σ
  | some e => EV C n env ε e σ (fun x σ₁ => ∃ i, x = .int i ∧ Q (some i) σ₁) X
def cut {α : Type} (l : List α) (lo hi : Option Int) : List α := (l.drop (lo.elim 0 (clipAt l.length))).take (hi.elim l.length (clipAt l.length) - lo.elim 0 (clipAt l.length))
theorem EP.use {e : Option Expr} {QP : Option Int → Store → Prop} (h : EP C n env ε e σ QP X) (a : AOk C n g (some env) A) (D : Hd C g env ε σ s) {Q' : Value → Shared → Prop} {E' : Value → Shared → Prop}
    (k : ∀ v i σ' s', Hd C g env ε σ' s' → TK s.heap s'.heap → IsPart v i → QP i σ' → Q' v s') (kx : ∀ e s', PostX C g env s X e s' → E' e s') : wpAny C.M A (evalPart e env) Q' E' s := by
  cases e with
  | none => exact wpAny_pure (k _ _ _ _ D (TK.refl _) .none h)
  | some e => exact TV.use h a D (fun v x σ' s' D' k' r ⟨i, e1, q⟩ => by subst e1; obtain ⟨t, rfl⟩ := r; exact k _ _ _ _ D' k' (.int i t) q) kx
def OPC (C : Cx) (n : Nat) (env : Env) (ε : Loc) (x : V) (lo hi : Option Int) (σ : Store) (Q : V → Store → Prop) (X : AX → Store → Prop) : Prop :=
  ∀ A g s v sl vl vu, AOk C n g (some env) A → Hd C g env ε σ s → RV s.heap x v → s.heap.IsSliceOf sl vl vu .none → IsPart vl lo → IsPart vu hi →
    ∃ T id, typeLookup (.type T) "__getitem__" = pure (some (.builtin id)) ∧ s.TypeIs v T ∧ wpAny C.M A (getItem v (.ref sl)) (Post C g env ε s Q) (PostX C g env s X) s
abbrev Qcu3 (C : Cx) (n : Nat) (env : Env) (ε : Loc) (x : V) (lo : Option Int) (Q : V → Store → Prop) (X : AX → Store → Prop) : Option Int → Store → Prop := fun hi σ₃ => OPC C n env ε x lo hi σ₃ Q X
abbrev Qcu2 (C : Cx) (n : Nat) (env : Env) (ε : Loc) (upper : Option Expr) (x : V) (Q : V → Store → Prop) (X : AX → Store → Prop) : Option Int → Store → Prop := fun lo σ₂ => EP C n env ε upper σ₂ (Qcu3 C n env ε x lo Q X) X
abbrev Qcu1 (C : Cx) (n : Nat) (env : Env) (ε : Loc) (lower upper : Option Expr) (Q : V → Store → Prop) (X : AX → Store → Prop) : V → Store → Prop := fun x σ₁ => EP C n env ε lower σ₁ (Qcu2 C n env ε upper x Q X) X
theorem EV_Cut {value : Expr} {lower upper : Option Expr} {p pos : Pos} (h : EV C n env ε value σ (Qcu1 C n env ε lower upper Q X) X)
    (hs : ∀ o i, subscripted (.Slice lower upper none p) false o i = operate [i, o] (getItem o i) := by intro _ _; with_unfolding_all rfl) : EV C n env ε (.Subscript value (.Slice lower upper none p) pos) σ Q X := fun A g s a D =>
  Subscript_ (h.use a D (fun v x σ₁ s₁ D₁ k₁ r₁ h₁ => wpAny_Slice (h₁.use a D₁ (fun vl lo σ₂ s₂ D₂ k₂ p₂ h₂ => h₂.use a D₂ (fun vu hi σ₃ s₃ D₃ k₃ p₃ h₃ => wpAny_pure (by
    have kk := k₂.trans (k₃.trans (TK.push s₃.heap { cls := .type "slice", data := .fields #[vl, vu, .none] }))
    obtain ⟨T, id, hl, hT, w⟩ := h₃ A g _ v _ vl vu a (D₃.push { cls := .type "slice", data := .fields #[vl, vu, .none] } s₃.toks) (RV.mono kk _ _ r₁) (Heap.IsSliceOf.new ..) p₂ p₃
    exact wpAny_mono (tail_any hT hl w (hs _ _)) (fun _ _ z => z.trans (k₁.trans kk)) fun _ _ z => z.trans (k₁.trans kk))) fun _ _ z => z.trans (k₁.trans k₂)) fun _ _ z => z.trans k₁)) fun _ _ z => z)
theorem cut_bytes {b : Array UInt8} {lo hi : Option Int} (hz : b.size ≤ 1000000) (h : Q (.bytes (cut b.toList lo hi).toArray) σ) : OPC C n env ε (.bytes b) lo hi σ Q X := fun A g s v sl vl vu a D r hsl pl pu => by
  obtain ⟨t, rfl⟩ := r
  refine ⟨"bytes", _, FB.slot_bytes_getitem.lookup, typeIs_bytes _ _ _, getItem_meets (typeIs_bytes _ _ _) (by decide) FB.slot_bytes_getitem FB.entry_bytes_getitem (FB.args_bytes_getitem_2 _ _) (KBc.meets_slice2 b t _ pl pu)
    ⟨hsl, Nat.le_trans (KBc.size_picked_le b lo hi) (by rw [sizeLine_eq]; omega), fun t' k => ?_⟩⟩
  have e : KBy.picked b lo hi = (cut b.toList lo hi).toArray := by rw [KBc.picked_eq]; simp [cut]
  rw [e]
  exact ppt D _ rv_bytes h
end
end Mine
end
section
open PySem PySem.W PyProof.Rows PySem.Calls PySem.Spec
set_option Elab.async false
set_option maxRecDepth 100000
set_option linter.unusedVariables false
set_option linter.unusedSectionVars false
namespace Mine
theorem strLt_iff (a b : Str) : strLt a b = true ↔ a.cps.toList < b.cps.toList := by simp [strLt]
def sle (a b : Str) : Bool := !strLt b a
theorem sle_iff (a b : Str) : sle a b = true ↔ a.cps.toList ≤ b.cps.toList := by
  unfold sle; rw [Bool.not_eq_true', ← Bool.not_eq_true, strLt_iff]; exact List.not_lt
theorem sle_trans (a b c : Str) : sle a b = true → sle b c = true → sle a c = true := by
  rw [sle_iff, sle_iff, sle_iff]; exact List.le_trans
theorem sle_anti (a b : Str) : sle a b = true → sle b a = true → a = b := by
  rw [sle_iff, sle_iff]; intro h1 h2
  have := List.le_antisymm h1 h2
  cases a; cases b; simp at this; rw [this]
theorem sle_total (a b : Str) : (sle a b || sle b a) = true := by
  rw [Bool.or_eq_true, sle_iff, sle_iff]; exact List.le_total _ _
def sortS (l : List Str) : List Str := l.mergeSort sle
def ile (a b : Int) : Bool := decide (a ≤ b)
def sortI (l : List Int) : List Int := l.mergeSort ile
theorem sortS_perm (l : List Str) : (sortS l).Perm l := List.mergeSort_perm l _
theorem sortI_perm (l : List Int) : (sortI l).Perm l := List.mergeSort_perm l _
theorem sortS_pw (l : List Str) : (sortS l).Pairwise fun a b => sle a b = true := List.pairwise_mergeSort sle_trans sle_total l
theorem sortI_pw (l : List Int) : (sortI l).Pairwise fun a b => a ≤ b := by
  have := List.pairwise_mergeSort (le := ile) (fun a b c h1 h2 => by simp [ile] at *; omega) (fun a b => by simp [ile]; omega) l
  exact this.imp fun h => by simpa [ile] using h
theorem sortS_of {l m : List Str} (p : m.Perm l) (o : m.Pairwise fun a b => sle a b = true) : m = sortS l :=
  List.Perm.eq_of_pairwise (le := fun a b => sle a b = true) (fun a b _ _ => sle_anti a b) o (sortS_pw l) (p.trans (sortS_perm l).symm)
theorem sortI_of {l m : List Int} (p : m.Perm l) (o : m.Pairwise fun a b => a ≤ b) : m = sortI l :=
  List.Perm.eq_of_pairwise (le := fun a b : Int => a ≤ b) (fun a b _ _ h1 h2 => Int.le_antisymm h1 h2) o (sortI_pw l) (p.trans (sortI_perm l).symm)
theorem rising_pw : ∀ (p : Str) (l : List Str), risingS p l = true → (p :: l).Pairwise fun a b => sle a b = true
  | p, [], _ => List.pairwise_cons.mpr ⟨fun _ h => by simp at h, .nil⟩
  | p, x :: r, h => by
    unfold risingS at h
    rw [Bool.and_eq_true, ltCps_eq] at h
    have ih := rising_pw x r h.2
    have h1 : sle p x = true := h.1
    refine List.pairwise_cons.mpr ⟨fun y hy => ?_, ih⟩
    rcases List.mem_cons.mp hy with rfl | hy
    · exact h1
    · exact sle_trans _ _ _ h1 ((List.pairwise_cons.mp ih).1 y hy)
theorem sortedS_pw : ∀ (l : List Str), sortedS l = true → l.Pairwise fun a b => sle a b = true
  | [], _ => .nil
  | x :: r, h => rising_pw x r h
section
variable {prog : Program} {w : World} {A : Around} {E : Value → Shared → Prop} {s : Shared}
theorem sorted_ints_of {r : Value} {Q : Value → Shared → Prop} (hc : wpAny (model prog w) A.in1 (collect r) (fun vs s₁ => ∃ ns, IntsAre vs ns ∧ vs.length < 64 ∧
      ∀ (out : Array Value) (ns' : List Int), IntsAre out.toList ns' → ns'.Perm ns → ns'.Pairwise (· ≤ ·) → Q (.ref s₁.heap.objs.size) { s₁ with heap := sortedHeap (s₁.heap.push (seqObj "list" vs.toArray 0)) s₁.heap.objs.size vs out }) E s) :
    wpAny (model prog w) A (call (.builtin "sorted") [r]) Q E s := by
  refine Calls.call_function_entry kind_sorted plain_sorted entry_sorted (args_sorted1 _) ?_
  unfold Builtin.«sorted»
  refine wpAny_bind (m := checkCount "sorted" 1 1 _) (wpAny_pure ?_)
  refine wpAny_bind (wpAny_mono hc (fun vs s₁ ⟨ns, hI, h64, h⟩ => ?_) fun _ _ z => z)
  refine wpAny_bind (wpAny_newList ?_)
  have hoL : (s₁.heap.push (seqObj "list" vs.toArray 0)).get? s₁.heap.objs.size = some (seqObj "list" vs.toArray 0) := Heap.get?_push_size _ rfl
  refine wpAny_bind (wpAny_holding (wpAny_call_entry slot_list_sort ⟨_, hoL, rfl⟩ entry_list_sort (list_sort_tree hoL hI h64 fun out ns' a1 a2 a3 => ⟨_, rfl, ?_⟩) (args_list_sort _)))
  exact wpAny_pure ⟨_, rfl, h out ns' a1 a2 a3⟩
theorem sorted_strs_of {r : Value} {Q : Value → Shared → Prop} (hc : wpAny (model prog w) A.in1 (collect r) (fun vs s₁ => ∃ ss, StrsAre vs ss ∧ vs.length < 64 ∧
      ∀ (out : Array Value) (ss' : List Str), StrsAre out.toList ss' → ss'.Perm ss → sortedS ss' = true → Q (.ref s₁.heap.objs.size) { s₁ with heap := sortedHeap (s₁.heap.push (seqObj "list" vs.toArray 0)) s₁.heap.objs.size vs out }) E s) :
    wpAny (model prog w) A (call (.builtin "sorted") [r]) Q E s := by
  refine Calls.call_function_entry kind_sorted plain_sorted entry_sorted (args_sorted1 _) ?_
  unfold Builtin.«sorted»
  refine wpAny_bind (m := checkCount "sorted" 1 1 _) (wpAny_pure ?_)
  refine wpAny_bind (wpAny_mono hc (fun vs s₁ ⟨ss, hS, h64, h⟩ => ?_) fun _ _ z => z)
  refine wpAny_bind (wpAny_newList ?_)
  have hoL : (s₁.heap.push (seqObj "list" vs.toArray 0)).get? s₁.heap.objs.size = some (seqObj "list" vs.toArray 0) := Heap.get?_push_size _ rfl
  refine wpAny_bind (wpAny_holding (wpAny_call_entry slot_list_sort ⟨_, hoL, rfl⟩ entry_list_sort (list_sort_treeK strKind_oneLt hoL hS.keysOf (fun v₁ v₂ rest e => keyKind_strs (by rw [← e]; exact hS)) h64 fun st' hp hs => ⟨_, rfl, ?_⟩) (args_list_sort _)))
  obtain ⟨ss', h1, h2, h3⟩ := sorted_out_str hS hp hs
  exact wpAny_pure ⟨_, rfl, h _ ss' h1 h2 h3⟩
theorem collect_src {T : String} {r d : Addr} {n : Nat} {P : Nat → Value → Prop} {OK : Heap → Prop} {Q : List Value → Shared → Prop} (K : KdlSrc prog w T r d n P OK) (hh : A.handled = none) (hok : OK s.heap) (hn : n ≤ sizeLine)
    (hQ : ∀ h' tk (vs : List Value), (∀ b o, s.heap.get? b = some o → h'.get? b = some o) → s.heap.objs.size ≤ h'.objs.size → vs.length = n → (∀ j v, vs[j]? = some v → P j v) → Q vs { s with heap := h', toks := tk }) :
    wpAny (model prog w) A (collect (.ref r)) Q E s := by
  have hlt := K.there _ hok
  have key : ∀ R : Result → Shared → Prop, (∀ h' tk acc' c', (∀ b o, b ≠ s.heap.objs.size → (s.heap.push { cls := .type "list", data := .seq ([] : List Value).toArray }).get? b = some o → h'.get? b = some o) →
      h'.get? s.heap.objs.size = some { cls := .type "list", dict := none, data := .seq acc' c', slots := #[] } → ItemsOf P acc' n → R (.ok (.ret (.ref s.heap.objs.size))) { s with heap := h', toks := tk }) →
      codeAny (model prog w) A (.builtin "proto.collect" ⟨[.ref r], []⟩) R s := fun R hR => by
    refine codeAny_builtin PySem.F.entry_proto_collect ?_
    rw [Around.under_plainId PySem.F.plain_proto_collect _]
    show wpAny _ A.in1 (newList [] >>= fun l => again (.builtin "list.__iadd__" ⟨[l, .ref r], []⟩)) _ _ s
    refine wpAny_bind (wpAny_newObj_type ?_)
    refine wpAny_pure ⟨plainId_quiet PySem.F.plain_list_iadd _, codeAny_builtin PySem.F.entry_list_iadd ?_⟩
    rw [Around.under_plainId PySem.F.plain_list_iadd _]
    show wpAny _ A.in1 (Builtin.List.listExtendWith (.ref s.heap.objs.size) (.ref r) (.ref s.heap.objs.size)) _ _ _
    have hS : (s.heap.push { cls := .type "list", data := .seq ([] : List Value).toArray }).get? s.heap.objs.size = some { cls := .type "list", data := .seq #[] 0 } := Heap.get?_push_size _ rfl
    exact kdl_extend (s := { s with heap := s.heap.push { cls := .type "list", data := .seq ([] : List Value).toArray } }) K hh (K.keep _ _ hok fun b _ o e => Heap.get?_push_of_some _ e) s.heap.objs.size (Nat.ne_of_gt hlt.1) (Nat.ne_of_gt hlt.2) _ 0 hS (fun h' tk acc' c' hk hS' hacc => hR h' tk acc' c' hk hS' hacc) hn
  unfold collect
  refine wpAny_bind (wpAny_runValue (key _ fun h' tk acc' c' hk hS' hacc => ?_))
  show wpAny _ A (load s.heap.objs.size >>= _) _ _ _
  refine wpAny_bind (wpAny_load hS' ?_)
  exact wpAny_pure (hQ h' tk acc'.toList (fun b o e => hk b o (Nat.ne_of_lt (Heap.lt_size e)) (Heap.get?_push_of_some _ e)) (Nat.le_of_lt (Heap.lt_size hS')) (by rw [Array.length_toList]; exact hacc.1) fun j v e => hacc.2 j v (by rw [← Array.getElem?_toList]; exact e))
end
theorem rvs_ints {h : Heap} : ∀ {vs : List Value} {ns : List Int}, IntsAre vs ns → RVs h (ns.map .int) vs
  | _, _, .nil => rfl
  | _, _, .cons x t r => ⟨_, _, rfl, rv_int, rvs_ints r⟩
theorem rvs_strs {h : Heap} : ∀ {vs : List Value} {ns : List Str}, StrsAre vs ns → RVs h (ns.map .str) vs
  | _, _, .nil => rfl
  | _, _, .cons x t r => ⟨_, _, rfl, rv_str, rvs_strs r⟩
theorem ints_of_rvs {h : Heap} : ∀ {vs : List Value} {ns : List Int}, RVs h (ns.map .int) vs → IntsAre vs ns
  | _, [], r => by rw [show _ = [] from r]; exact .nil
  | _, x :: ns, r => by obtain ⟨v, q, rfl, ⟨t, rfl⟩, r2⟩ := r; exact .cons x t (ints_of_rvs r2)
theorem strs_of_rvs {h : Heap} : ∀ {vs : List Value} {ns : List Str}, RVs h (ns.map .str) vs → StrsAre vs ns
  | _, [], r => by rw [show _ = [] from r]; exact .nil
  | _, x :: ns, r => by obtain ⟨v, q, rfl, ⟨t, rfl⟩, r2⟩ := r; exact .cons x t (strs_of_rvs r2)
theorem strs_keys {prog : Program} {w : World} : ∀ {kvs : List (Str × Value)} {vs : List Value}, vs.length = kvs.length → (∀ (j : Nat) (v : Value), vs[j]? = some v → ∃ k x, kvs[j]? = some (k, x) ∧ (PySem.strKind prog w).is k v = true) → StrsAre vs (kvs.map (·.1))
  | [], [], _, _ => .nil
  | [], _ :: _, h, _ => by simp at h
  | _ :: _, [], h, _ => by simp at h
  | (a, b) :: kvs, v :: vs, h, hh => by
    obtain ⟨k, x, e1, e2⟩ := hh 0 v rfl
    simp at e1; obtain ⟨rfl, rfl⟩ := e1
    obtain ⟨t, rfl⟩ := Value.isStrOf_shape e2
    exact .cons _ t (strs_keys (by simpa using h) fun j v e => hh (j + 1) v (by simpa using e))
theorem ints_keys {prog : Program} {w : World} : ∀ {kvs : List (Int × Value)} {vs : List Value}, vs.length = kvs.length → (∀ (j : Nat) (v : Value), vs[j]? = some v → ∃ k x, kvs[j]? = some (k, x) ∧ (intKind prog w).is k v = true) → IntsAre vs (kvs.map (·.1))
  | [], [], _, _ => .nil
  | [], _ :: _, h, _ => by simp at h
  | _ :: _, [], h, _ => by simp at h
  | (a, b) :: kvs, v :: vs, h, hh => by
    obtain ⟨k, x, e1, e2⟩ := hh 0 v rfl
    simp at e1; obtain ⟨rfl, rfl⟩ := e1
    obtain ⟨t, rfl⟩ := Value.isInt_shape e2
    exact .cons _ t (ints_keys (by simpa using h) fun j v e => hh (j + 1) v (by simpa using e))
theorem RPairs.keys {α : Type} {h : Heap} : ∀ {es : List (α × V)} {kvs : List (α × Value)}, RPairs h es kvs → kvs.map (·.1) = es.map (·.1)
  | [], _, r => by rw [show _ = [] from r]; rfl
  | (a, x) :: es, _, r => by obtain ⟨v, q, rfl, _, r2⟩ := r; simp [r2.keys]
section
variable {C : Cx} {g : Gh} {σ σ' : Store} {s s' : Shared} {env : Env} {ε : Loc} {n : Nat} {A : Around} {Q : V → Store → Prop} {X : AX → Store → Prop} {QB : Bool → Store → Prop} {QS : Fl → Loc → Store → Prop} {QA : Loc → Store → Prop} {QL : List V → Store → Prop}
theorem Hd.grown (D : Hd C g env ε σ s) {h' : Heap} (tk : Nat) (k : ∀ b o, s.heap.get? b = some o → h'.get? b = some o) : Hd C g env ε σ { s with heap := h', toks := tk } :=
  ⟨D.S.grow tk k, D.F.keeps (h' := h') (fun _ e => k _ _ e) (TK.of_keeps k) rfl D.F.σL⟩
theorem Hd.sorted (D : Hd C g env ε σ s) {h' : Heap} {tk : Nat} {vs : List Value} {out : Array Value} {xs : List V} (k : ∀ b o, s.heap.get? b = some o → h'.get? b = some o) (hx : ∀ h, RVs h xs out.toList) (hz : s.heap.objs.size ≤ h'.objs.size) :
    σ h'.objs.size = none ∧ Hd C g env ε (upd σ h'.objs.size (.list xs)) { s with heap := sortedHeap (h'.push (seqObj "list" vs.toArray 0)) h'.objs.size vs out, toks := tk } ∧ TK s.heap (sortedHeap (h'.push (seqObj "list" vs.toArray 0)) h'.objs.size vs out) := by
  have k2 : ∀ b o, s.heap.get? b = some o → (sortedHeap (h'.push (seqObj "list" vs.toArray 0)) h'.objs.size vs out).get? b = some o := fun b o e => by
    have hb := Heap.lt_size (k b o e)
    rw [sortedHeap_old (Nat.ne_of_lt hb) (by rw [size_push']; exact Nat.lt_succ_of_lt hb)]
    exact Heap.get?_push_of_some _ (k b o e)
  obtain ⟨f1, f2, f3, f4⟩ := D.fresh (a := h'.objs.size) hz
  obtain ⟨e, he⟩ := sortedHeap_at (h := h'.push (seqObj "list" vs.toArray 0)) (a := h'.objs.size) (vs := vs) (n := 0) (out := out) (Heap.get?_push_size _ rfl)
  refine ⟨f1, (D.grown tk k2).add (o := .list xs) f2 f3 f4 ⟨out.toList, ⟨e, by rw [he]; simp [listOb, seqObj]⟩, hx _⟩, TK.of_keeps k2⟩
theorem sorted_dictS {d : Addr} {es : List (Str × V)} {ep : Nat} (hd : σ d = some (.dictS es ep)) (hz : es.length < 64) (h : ∀ r, σ r = none → Q (.obj r) (upd σ r (.list ((sortS (es.map (·.1))).map .str)))) : OPL C (n + 1) env ε (fun vs => call (.builtin "sorted") vs) [.obj d] σ Q X := fun A g s vs hA D r => by
  obtain ⟨v, r', rfl, rfl, q⟩ := r
  rw [show r' = [] from q]
  obtain ⟨hsys, kvs, hda, hp⟩ := D.S.sim d _ hd
  refine sorted_strs_of (collect_src (kdl_dict (kvs := kvs) (ep := ep) hsys) (by simpa using hA.hn) hda (by rw [hp.length, sizeLine_eq]; omega) fun h' tk vs k hsz hl hv => ?_)
  have hS := strs_keys hl hv
  refine ⟨_, hS, by rw [hl, hp.length]; exact hz, fun out ss' a1 a2 a3 => ?_⟩
  rw [hp.keys] at a2
  have e := sortS_of a2 (sortedS_pw _ a3)
  subst e
  obtain ⟨f1, D', k'⟩ := D.sorted (vs := vs) (tk := tk) k (fun h => rvs_strs a1) hsz
  exact ⟨.obj _, _, D', k', rv_obj, h _ f1⟩
theorem sorted_dictI {d : Addr} {es : List (Int × V)} {ep : Nat} (hd : σ d = some (.dictI es ep)) (hz : es.length < 64) (h : ∀ r, σ r = none → Q (.obj r) (upd σ r (.list ((sortI (es.map (·.1))).map .int)))) : OPL C (n + 1) env ε (fun vs => call (.builtin "sorted") vs) [.obj d] σ Q X := fun A g s vs hA D r => by
  obtain ⟨v, r', rfl, rfl, q⟩ := r
  rw [show r' = [] from q]
  obtain ⟨hsys, kvs, hda, hp⟩ := D.S.sim d _ hd
  refine sorted_ints_of (collect_src (kdl_dict (kvs := kvs) (ep := ep) hsys) (by simpa using hA.hn) hda (by rw [hp.length, sizeLine_eq]; omega) fun h' tk vs k hsz hl hv => ?_)
  have hS := ints_keys hl hv
  refine ⟨_, hS, by rw [hl, hp.length]; exact hz, fun out ss' a1 a2 a3 => ?_⟩
  rw [hp.keys] at a2
  have e := sortI_of a2 a3
  subst e
  obtain ⟨f1, D', k'⟩ := D.sorted (vs := vs) (tk := tk) k (fun h => rvs_ints a1) hsz
  exact ⟨.obj _, _, D', k', rv_obj, h _ f1⟩
end
end Mine
end
section
open PySem PySem.W PyProof.Rows PySem.Calls PySem.Spec
set_option Elab.async false
set_option maxRecDepth 100000
set_option linter.unusedVariables false
set_option linter.unusedSectionVars false
namespace Mine
section
open PySem.Builtin PySem.Builtin.Str PySem.Builtin._codecs
theorem loop2 {σ : Type} (f : Nat → σ → Sem (ForInStep σ)) (a b : σ) (h1 : ∀ k, f k a = pure (.yield b)) (h2 : ∀ k, f k b = pure (.done b)) : ∀ l : List Nat, l ≠ [] → forIn l a f = pure b
  | [], h => absurd rfl h
  | [x], _ => by rw [List.forIn_cons, h1]; simp
  | x :: y :: l, _ => by rw [List.forIn_cons, h1, pure_bind]; dsimp only; rw [List.forIn_cons, h2]; simp
theorem ascii_ok (x : Array Nat) (h : ∀ c ∈ x, c < 128) : x.findIdx? asciiCodec.bad = none := by
  rw [Array.findIdx?_eq_none_iff]
  intro c hc
  have := h c hc
  simp [asciiCodec]; omega
theorem fold_bytes (l : List Nat) : ∀ acc : Array UInt8, l.foldl (fun acc y => acc ++ (asciiCodec.bytesOf y).toArray) acc = acc ++ (l.map fun c => c.toUInt8).toArray := by
  induction l with
  | nil => intro acc; simp
  | cons x l ih => intro acc; rw [List.foldl_cons, ih]; simp [asciiCodec]
theorem encodeNarrow_ascii (id : String) (self : Value) (x : PySem.Str) (h : ∀ c ∈ x.cps, c < 128) (hz : x.cps.size ≤ sizeLine) : encodeNarrow id asciiCodec none self x = pure (x.cps.map fun c => c.toUInt8) := by
  unfold encodeNarrow
  simp only [Std.Legacy.Range.forIn_eq_forIn_range', Std.Legacy.Range.size]
  by_cases h0 : x.cps.size = 0
  · have e : x.cps = #[] := by simpa using h0
    have e2 : x.length = 0 := h0
    rw [e2, e, show (0 - 0 + 1 - 1) / 1 = 0 from rfl, show List.range' 0 0 = [] from rfl, List.forIn_nil]
    simp
  · rw [loop2 (σ := Nat × Array UInt8 × Faults) _ (0, #[], {}) (x.cps.size, x.cps.map (fun c => c.toUInt8), {}) ?h1 ?h2 _ ?h3]
    · simp
    case h1 =>
      intro k
      rw [if_neg (by simp)]
      have hx : x.cps[0]? = some x.cps[0] := by rw [getElem?_pos]
      rw [hx]
      dsimp only
      have hb : asciiCodec.bad x.cps[0] = false := by
        have := h x.cps[0] (by simp)
        simp [asciiCodec]; omega
      rw [hb]
      have e0 : x.cps.extract 0 = x.cps := by simp
      simp only [Bool.not_false, if_true]
      rw [show x.cps.extract 0 x.cps.size = x.cps from by simp, ascii_ok _ h]
      simp only [Option.getD_none, Nat.zero_add]
      rw [show x.cps.extract 0 x.cps.size = x.cps from by simp, ← Array.foldl_toList, fold_bytes]
      have em : (#[] ++ (x.cps.toList.map fun c => c.toUInt8).toArray : Array UInt8) = x.cps.map fun c => c.toUInt8 := by apply Array.ext'; simp
      rw [em]
    case h2 =>
      intro k
      rw [if_neg (by rw [Array.size_map]; omega)]
      rw [getElem?_neg _ _ (by simp)]
    case h3 =>
      have : x.length = x.cps.size := rfl
      rw [this]
      intro q
      have := congrArg List.length q
      simp at this
      exact h0 (by simp [this])
theorem decode_loop (b : Array UInt8) (h : ∀ c ∈ b, c.toNat < 128) (hz : b.size ≤ sizeLine) (f : Nat → (Nat × Array Nat × Faults) → Sem (ForInStep (Nat × Array Nat × Faults))) (st : Faults)
    (hf : ∀ k p out, out.size ≤ sizeLine → p < b.size → f k (p, out, st) = pure (.yield (p + 1, out ++ [(b.getD p 0).toNat].toArray, st))) :
    ∀ (n p : Nat) (out : Array Nat) (l : List Nat), l.length = n → p + n = b.size → out.size = p → forIn l (p, out, st) f = pure (b.size, out ++ ((b.toList.drop p).map (·.toNat)).toArray, st)
  | 0, p, out, l, hl, hp, ho => by
    have : l = [] := List.length_eq_zero_iff.mp hl
    subst this
    have e : p = b.size := by omega
    subst e
    rw [List.forIn_nil, List.drop_eq_nil_of_le (by simp)]; simp
  | n + 1, p, out, l, hl, hp, ho => by
    cases l with
    | nil => simp at hl
    | cons x l =>
      rw [List.forIn_cons, hf x p out (by omega) (by omega), pure_bind]
      dsimp only
      rw [decode_loop b h hz f st hf n (p + 1) _ l (by simpa using hl) (by omega) (by simp; omega)]
      have e : b.toList.drop p = b.getD p 0 :: b.toList.drop (p + 1) := by
        have hp' : p < b.toList.length := by simp; omega
        rw [List.drop_eq_getElem_cons hp']
        congr 1
        simp [Array.getD]; intro q; omega
      rw [e]; simp
theorem runDecoder_ascii (id : String) (b : Array UInt8) (h : ∀ c ∈ b, c.toNat < 128) (hz : b.size ≤ sizeLine) : runDecoder id asciiDecoder none true b 0 [] = pure ((b.toList.map (·.toNat)).toArray, b.size) := by
  unfold runDecoder
  simp only [Std.Legacy.Range.forIn_eq_forIn_range', Std.Legacy.Range.size]
  rw [decode_loop b h hz _ { held := [] } (fun k p out ho hp => ?_) b.size 0 #[] _ (by simp) (by simp) rfl]
  · simp
  · dsimp only
    rw [if_neg (by omega), if_neg (by omega)]
    have hb : (b.getD p 0).toNat < 128 := by
      have : b.getD p 0 = b[p] := by simp [Array.getD, hp]
      rw [this]; exact h _ (by simp)
    simp only [asciiDecoder, if_pos hb, Found.char]
theorem decode_entry (c : UInt8) (cs : List UInt8) (t u : Tok) : «bytes.decode» ⟨[.bytes (c :: cs).toArray t, .str "ascii" u], []⟩ = (mkStr (PySem.Str.ofString "utf-8") >>= fun _ => mkStr (PySem.Str.ofString "ascii") >>= fun e => mkStr (PySem.Str.ofString "bytes.decode") >>= fun d =>
    call (.builtin "_codecs.decode.text") [.bytes (c :: cs).toArray t, e, .none, d] >>= fun v => ret v) := by kernel_rfl
theorem decode_empty (t u : Tok) : «bytes.decode» ⟨[.bytes #[] t, .str "ascii" u], []⟩ = (rule "bytes.decode.empty" >>= fun _ => retStr Str.empty) := by kernel_rfl
theorem road_ascii {id : String} {b : Array UInt8} : _codecs.decodeRoad id b (PySem.Str.ofString "ascii") none [] = (_codecs.runDecoder id _codecs.asciiDecoder none true b 0 [] >>= fun r => mkStr ⟨r.1⟩) := by kernel_rfl
theorem encode_tree2 (x : PySem.Str) (t u : Tok) : «str.encode» ⟨[.str x t, .str "ascii" u], []⟩ = (do ret (← encodeRoad "str.encode" (.str x t) x "ascii" none)) := by first | rfl | kernel_rfl
theorem encodeRoad_ascii (id : String) (self : Value) (x : PySem.Str) : encodeRoad id self x "ascii" none = (do mkBytes (← encodeNarrow id asciiCodec none self x)) := by
  first | rfl | kernel_rfl
theorem meets_encode {x : PySem.Str} {t u : Tok} (h0 : ∀ c ∈ x.cps, c < 128) (hz : x.cps.size ≤ sizeLine) :
    Meets («str.encode» ⟨[.str x t, .str "ascii" u], []⟩) (fun _ R s => ∀ t' k, R (.ok (.ret (.bytes (x.cps.map fun c => c.toUInt8) t'))) { s with toks := k }) := by
  refine .of_wp fun prog w A R s h => ?_
  rw [encode_tree2, encodeRoad_ascii, encodeNarrow_ascii _ _ _ h0 hz]
  refine wpAny_bind (wpAny_bind (wpAny_pure (wpAny_mkBytes (wpAny_pure ⟨_, rfl, h _ _⟩) (by rw [Array.size_map]; exact hz))))
theorem meets_text2 {b : Array UInt8} {x : PySem.Str} {n : Nat} {t t1 t2 : Tok} {d : PySem.Str} (hd : ∀ id, runDecoder id asciiDecoder none true b 0 [] = pure (x.cps, n)) :
    Meets («_codecs.decode.text» ⟨[.bytes b t, .str (PySem.Str.ofString "ascii") t1, .none, .str d t2], []⟩) (fun _ R s => x.length ≤ sizeLine ∧ R (.ok (.ret (.str x s.toks))) { s with toks := s.toks + 1 }) := by
  refine .of_wp fun prog w A R s hS => ?_
  obtain ⟨hsz, h⟩ := hS
  show wpAny _ _ (Bytes.bytesLike _ (.bytes b t) >>= fun r => _) _ _ s
  refine wpAny_bind (wpAny_of_eq KBd.like_eq ?_)
  refine wpAny_bind (wpAny_of_eq KBd.held_eq ?_)
  show wpAny _ _ (decodeRoad _ b (PySem.Str.ofString "ascii") none [] >>= fun v => _) _ _ s
  rw [road_ascii, hd]
  refine wpAny_bind (wpAny_bind (wpAny_pure ?_))
  exact wpAny_mkStr (wpAny_pure ⟨_, rfl, h⟩) hsz
theorem meets_decode2 {b : Array UInt8} {t u : Tok} (h0 : ∀ c ∈ b, c.toNat < 128) (hz : b.size ≤ 1000000) :
    Meets («bytes.decode» ⟨[.bytes b t, .str "ascii" u], []⟩) (fun _ R s => ∀ t' k, R (.ok (.ret (.str ⟨(b.toList.map (·.toNat)).toArray⟩ t'))) { s with toks := k }) := by
  refine .of_wp fun prog w A R s h => ?_
  obtain ⟨l⟩ := b
  cases l with
  | nil =>
    rw [decode_empty]
    exact wpAny_bind (wpAny_rule (wpAny_bind (wpAny_mkStr (wpAny_pure ⟨_, rfl, h _ _⟩) (by decide))))
  | cons c cs =>
    rw [decode_entry]
    refine wpAny_bind (wpAny_mkStr ?_ (by decide))
    refine wpAny_bind (wpAny_mkStr ?_ (by decide))
    refine wpAny_bind (wpAny_mkStr ?_ (by decide))
    refine wpAny_bind (call_function_meets KBd.kind_text KBd.plain_text KBd.entry_text (KBd.args_text _ _ _ _) (meets_text2 (x := ⟨((c :: cs).map (·.toNat)).toArray⟩) (n := (c :: cs).length) fun id => ?_) ⟨?_, wpAny_pure ⟨_, rfl, h _ _⟩⟩)
    · exact runDecoder_ascii id (c :: cs).toArray h0 (by rw [sizeLine_eq]; exact Nat.le_trans hz (by decide))
    · show ((c :: cs).map (·.toNat)).toArray.size ≤ sizeLine
      rw [sizeLine_eq]; simp at hz ⊢; omega
theorem args_decode_2 (a b : Value) : argsOk "bytes.decode" ⟨[a, b], []⟩ := by
  unfold argsOk; rw [signature?_of (id := "bytes.decode") (n := ['e', 'd', 'o', 'c', 'e', 'd']) (o := ['s', 'e', 't', 'y', 'b']) (by kernel_rfl) FB.owner_bytes]; kernel_rfl
theorem slot_find : Slot "bytes" "find" "bytes.find" :=
  .of (owner := "bytes") (n := "find") (by rw [typeLookup_type, builtinLookup_eq_fast]; kernel_rfl) (by decide +kernel) (by decide +kernel) (by decide +kernel)
    (by first | exact .inl (by decide +kernel) | exact .inr (by decide +kernel)) (by rw [isSubtype_type]; kernel_rfl)
theorem type_find : typeOf (.builtin "bytes.find") = pure (.type "method_descriptor") := by show builtinType _ = _; rw [builtinType_eq_fast]; kernel_rfl
theorem entry_find : entryFor table "bytes.find" = some Builtin.«bytes.find» := entryFor_of_tree (by kernel_rfl)
theorem args_find (a b : Value) : argsOk "bytes.find" ⟨[a, b], []⟩ := by
  unfold argsOk; rw [signature?_of (id := "bytes.find") (n := ['d', 'n', 'i', 'f']) (o := ['s', 'e', 't', 'y', 'b']) (by kernel_rfl) FB.owner_bytes]; kernel_rfl
theorem search_eq (b c : Array UInt8) (t u : Tok) : Bytes.searchArgs .bytes "find" ⟨[.bytes b t, .bytes c u], []⟩ = pure (b, c, if ((Bytes.window b.size none none).2 - (Bytes.window b.size none none).1 < (c.size : Int)) then none else some ((Bytes.window b.size none none).1.toNat, (Bytes.window b.size none none).2.toNat)) := by
  unfold Bytes.searchArgs
  dsimp only
  generalize (toString Bytes.Kind.bytes.name ++ toString "." ++ toString "find") = nm
  rw [show PySem.selfAndSome nm "find" 1 3 ⟨[.bytes b t, .bytes c u], []⟩ = pure (.bytes b t, [.bytes c u]) from by first | rfl | kernel_rfl]
  rw [pure_bind]
  dsimp only
  rw [show Bytes.bound? ([Value.bytes c u][1]?) = pure none from rfl, pure_bind, show Bytes.bound? ([Value.bytes c u][2]?) = pure none from rfl, pure_bind]
  rw [show [Value.bytes c u].headD Value.none = .bytes c u from rfl, KBy.buffer_eq, pure_bind]
  dsimp only
  rw [pure_bind, show Bytes.payload (.bytes b t) = pure b from rfl, pure_bind]
theorem find_find (c : UInt8) : (if ((Bytes.window (#[83, 82, 73] : Array UInt8).size none none).2 - (Bytes.window (#[83, 82, 73] : Array UInt8).size none none).1 < ((#[c] : Array UInt8).size : Int)) then none else some ((Bytes.window (#[83, 82, 73] : Array UInt8).size none none).1.toNat, (Bytes.window (#[83, 82, 73] : Array UInt8).size none none).2.toNat)).bind (fun (p : Nat × Nat) => Bytes.find? #[83, 82, 73] #[c] p.1 p.2) =
    if c = 83 then some 0 else if c = 82 then some 1 else if c = 73 then some 2 else none := by
  have h : ∀ n : Fin 256, (if ((Bytes.window (#[83, 82, 73] : Array UInt8).size none none).2 - (Bytes.window (#[83, 82, 73] : Array UInt8).size none none).1 < ((#[UInt8.ofNat n.val] : Array UInt8).size : Int)) then none else some ((Bytes.window (#[83, 82, 73] : Array UInt8).size none none).1.toNat, (Bytes.window (#[83, 82, 73] : Array UInt8).size none none).2.toNat)).bind (fun (p : Nat × Nat) => Bytes.find? #[83, 82, 73] #[UInt8.ofNat n.val] p.1 p.2) =
    if UInt8.ofNat n.val = 83 then some 0 else if UInt8.ofNat n.val = 82 then some 1 else if UInt8.ofNat n.val = 73 then some 2 else none := by decide +kernel
  have := h ⟨c.toNat, c.toNat_lt⟩
  simpa using this
def kindAt (c : UInt8) : Int := if c = 83 then 0 else if c = 82 then 1 else if c = 73 then 2 else -1
theorem meets_find (c : UInt8) (t u : Tok) : Meets («bytes.find» ⟨[.bytes #[83, 82, 73] t, .bytes #[c] u], []⟩) (fun _ R s => ∀ t' k, R (.ok (.ret (.int (kindAt c) t'))) { s with toks := k }) := by
  refine .of_wp fun prog w A R s h => ?_
  show wpAny _ _ (Bytes.searchM .bytes "find" false false ⟨[.bytes #[83, 82, 73] t, .bytes #[c] u], []⟩) _ _ s
  unfold Bytes.searchM
  rw [search_eq]
  refine wpAny_bind (wpAny_pure ?_)
  dsimp only [Bool.false_eq_true, if_false]
  simp only [Bool.false_eq_true, if_false]
  have e := find_find c
  rw [e]
  unfold kindAt at h
  split
  · rename_i i hi
    refine wpAny_bind (wpAny_mkInt (wpAny_pure ⟨_, rfl, ?_⟩))
    by_cases h1 : c = 83
    · rw [if_pos h1] at hi; cases hi; rw [if_pos h1] at h; exact h _ _
    · rw [if_neg h1] at hi h
      by_cases h2 : c = 82
      · rw [if_pos h2] at hi; cases hi; rw [if_pos h2] at h; exact h _ _
      · rw [if_neg h2] at hi h
        by_cases h3 : c = 73
        · rw [if_pos h3] at hi; cases hi; rw [if_pos h3] at h; exact h _ _
        · rw [if_neg h3] at hi; cases hi
  · rename_i hi
    have h1 : ¬ c = 83 := fun q => by rw [if_pos q] at hi; cases hi
    rw [if_neg h1] at hi h
    have h2 : ¬ c = 82 := fun q => by rw [if_pos q] at hi; cases hi
    rw [if_neg h2] at hi h
    have h3 : ¬ c = 73 := fun q => by rw [if_pos q] at hi; cases hi
    rw [if_neg h3] at h
    exact wpAny_bind (wpAny_rule (wpAny_bind (wpAny_mkInt (wpAny_pure ⟨_, rfl, h _ _⟩))))
end
end Mine
end
section
open PySem PySem.W PyProof.Rows PySem.Calls PySem.Spec
set_option Elab.async false
set_option maxRecDepth 100000
set_option linter.unusedVariables false
set_option linter.unusedSectionVars false
namespace Mine
theorem bytes_no_special : typeLookup (.type "bytes") "__bytes__" = pure (some (.builtin "bytes.__bytes__")) := by rw [typeLookup_type, builtinLookup_eq_fast]; kernel_rfl
theorem bm_new_same {prog : Program} {w : World} {A : Around} {E : Value → Shared → Prop} {s : Shared} {b : Array UInt8} {t : Tok} {Q : Value → Shared → Prop} (hQ : Q (.bytes b t) s) :
    codeAny (model prog w) A (.call (.builtin "bytes.__new__") ⟨[.type "bytes", .bytes b t], []⟩) (wants Q E) s := by
  refine codeAny_of_tree ?_
  show wpAny _ A.in1 (do checkBuiltinCall "bytes.__new__" ⟨[.type "bytes", .bytes b t], []⟩; again (.builtin "bytes.__new__" ⟨[.type "bytes", .bytes b t], []⟩)) _ _ s
  refine wpAny_bind (wpAny_of_eq (PySem.F.bm_newCall _) (wpAny_pure ⟨plainId_quiet PySem.F.bm_plain _, codeAny_builtin PySem.F.bm_entry ?_⟩))
  rw [Around.under_plainId PySem.F.bm_plain _]
  unfold Builtin.«bytes.__new__»
  refine wpAny_bind (wpAny_of_eq (a := true) rfl ?_)
  refine bm_if_false rfl ?_
  refine wpAny_bind (wpAny_of_eq PySem.F.bm_sub ?_)
  refine bm_if_false rfl ?_
  refine wpAny_bind (wpAny_of_eq (PySem.F.bm_bind _) ?_)
  refine wpAny_bind (wpAny_of_eq (a := ()) rfl ?_)
  refine wpAny_bind (wpAny_of_eq (a := ()) rfl ?_)
  refine bm_if_false rfl ?_
  refine wpAny_bind (wpAny_specialOf (typeIs_bytes _ _ _) bytes_no_special ?_)
  refine wpAny_bind (wpAny_rule (wpAny_bind (wpAny_typeOf (typeIs_bytes _ _ _) ?_)))
  exact wpAny_pure hQ
theorem call_bytes_same {prog : Program} {w : World} {A : Around} {E : Value → Shared → Prop} {s : Shared} {b : Array UInt8} {t : Tok} {Q : Value → Shared → Prop} (hQ : Q (.bytes b t) s) : wpAny (model prog w) A (call (.type "bytes") [.bytes b t]) Q E s := by
  refine callType_codes (Q₁ := fun obj s₁ => s₁.TypeIs obj "bytes" ∧ Q obj s₁) PySem.F.bm_called (PySem.F.bm_typeCall _) PySem.F.entry_object_init (bm_new_same ⟨PySem.W.typeIs_bytes _ _ _, hQ⟩) fun obj s₁ h₁ => ?_
  exact ⟨h₁.1, PySem.F.args_object_init_2 obj _, object_init_meets PySem.F.bm_called.init.lookup PySem.F.bm_called.made (by decide) prog w A.in1 _ s₁ ⟨h₁.1, rfl, h₁.2⟩⟩
section
variable {C : Cx} {g : Gh} {σ σ' : Store} {s s' : Shared} {env : Env} {ε : Loc} {n : Nat} {A : Around} {Q : V → Store → Prop} {X : AX → Store → Prop} {QB : Bool → Store → Prop} {QS : Fl → Loc → Store → Prop} {QA : Loc → Store → Prop} {QL : List V → Store → Prop}
theorem tuple_list {l : Addr} {items : List V} (hl : σ l = some (.list items)) (hz : items.length ≤ 1000000) (h : Q (.tup items) σ) : OPL C n env ε (fun vs => call (.type "tuple") vs) [.obj l] σ Q X := fun A g s vs hA D r => by
  obtain ⟨v, r', rfl, rfl, q⟩ := r
  rw [show r' = [] from q]
  obtain ⟨vs, hls, hv⟩ := D.S.sim l _ hl
  refine call_tuple_list hls.isList (fun h' k => ?_) (by rw [List.size_toArray, hv.length, sizeLine_eq]; omega)
  have kk : ∀ b o, s.heap.get? b = some o → (h'.push { cls := .type "tuple", data := .seq vs.toArray }).get? b = some o := fun b o e => Heap.get?_push_of_some _ (k b o e)
  exact ⟨.tup items, σ, D.grown _ kk, TK.of_keeps kk, rv_tup ⟨_, Heap.get?_push_size _ rfl, rfl, _, rfl⟩ (RVs.mono (TK.of_keeps kk) _ _ hv), h⟩
theorem len_list' {l : Addr} {items : List V} (hl : σ l = some (.list items)) (hz : items.length ≤ 1000000) (h : Q (.int items.length) σ) : OPL C n env ε (fun vs => call (.builtin "len") vs) [.obj l] σ Q X := fun A g s vs hA D r => by
  obtain ⟨v, r', rfl, rfl, q⟩ := r
  rw [show r' = [] from q]
  obtain ⟨vs, hls, hv⟩ := D.S.sim l _ hl
  refine PyProof.Rows.len_list hls.isList (by rw [List.size_toArray, hv.length]; omega) ?_
  rw [List.size_toArray, hv.length]
  exact ppt D _ rv_int h
theorem len_tup {l : List V} (hz : l.length ≤ 1000000) (h : Q (.int l.length) σ) : OPL C n env ε (fun vs => call (.builtin "len") vs) [.tup l] σ Q X := fun A g s vs hA D r => by
  obtain ⟨v, r', rfl, ⟨a, vs, rfl, ht, hv⟩, q⟩ := r
  rw [show r' = [] from q]
  refine PyProof.Rows.len_tuple ht (by rw [List.size_toArray, hv.length]; omega) ?_
  rw [List.size_toArray, hv.length]
  exact ppt D _ rv_int h
theorem chr_i {i : Int} (h0 : 0 ≤ i) (h1 : i ≤ 1114111) (h : Q (.str ⟨#[i.toNat]⟩) σ) : OPL C n env ε (fun vs => call (.builtin "chr") vs) [.int i] σ Q X := fun A g s vs hA D r => by
  obtain ⟨v, r', rfl, ⟨t, rfl⟩, q⟩ := r
  rw [show r' = [] from q]
  exact chr_of_range h0 h1 (ppt D _ rv_str h)
def byteList (ns : List Int) : Array UInt8 := (ns.map fun i => i.toNat.toUInt8).toArray
theorem bytes_ints {l : Addr} {ns : List Int} (hl : σ l = some (.list (ns.map .int))) (hr : ∀ k ∈ ns, 0 ≤ k ∧ k < 256) (hz : ns.length ≤ 1000000) (h : Q (.bytes (byteList ns)) σ) : OPL C (n + 1) env ε (fun vs => call (.type "bytes") vs) [.obj l] σ Q X := fun A g s vs hA D r => by
  obtain ⟨v, r', rfl, rfl, q⟩ := r
  rw [show r' = [] from q]
  obtain ⟨vs, hls, hv⟩ := D.S.sim l _ hl
  have hi := ints_of_rvs hv
  exact call_bytes_ints hls.isList hi hr (by rw [hi.length, sizeLine_eq]; omega) hA.hn fun h' t k kk => ⟨_, σ, D.grown _ kk, TK.of_keeps kk, rv_bytes, h⟩
theorem bytes_bytes {b : Array UInt8} (h : Q (.bytes b) σ) : OPL C n env ε (fun vs => call (.type "bytes") vs) [.bytes b] σ Q X := fun A g s vs hA D r => by
  obtain ⟨v, r', rfl, ⟨t, rfl⟩, q⟩ := r
  rw [show r' = [] from q]
  exact call_bytes_same (pp D rv_bytes h)
theorem meth_list {nm : Str} {id : String} {pl : Sem Bool} {QM : Value → List V → Store → Prop} {l : Addr} {items : List V} (slot : Slot "list" nm id) (ty : typeOf (.builtin id) = pure (.type "method_descriptor")) (hl : σ l = some (.list items)) (h : QM (.builtin id) [.obj l] σ) :
    OPM C n env ε nm pl (.obj l) σ QM X := fun A g s v a D r => by
  rw [show v = _ from r]
  obtain ⟨vs, ⟨k, ho⟩, hv⟩ := D.S.sim l _ hl
  exact getMethod_builtin ⟨_, ho, rfl⟩ PySem.F.plainAttrs_list slot ty (fun a e => by cases e; exact ⟨_, ho, rfl⟩) ⟨[.obj l], σ, D, TK.refl _, RVs.one rv_obj, h⟩
theorem meth_str {nm : Str} {id : String} {pl : Sem Bool} {QM : Value → List V → Store → Prop} {x : Str} (slot : Slot "str" nm id) (ty : typeOf (.builtin id) = pure (.type "method_descriptor")) (h : QM (.builtin id) [.str x] σ) :
    OPM C n env ε nm pl (.str x) σ QM X := fun A g s v a D r => by
  obtain ⟨t, rfl⟩ := r
  exact getMethod_builtin (typeIs_str _ _ _) PySem.F.plainAttrs_str slot ty (fun _ e => nomatch e) ⟨[.str x], σ, D, TK.refl _, RVs.one rv_str, h⟩
theorem meth_bytes {nm : Str} {id : String} {pl : Sem Bool} {QM : Value → List V → Store → Prop} {x : Array UInt8} (slot : Slot "bytes" nm id) (ty : typeOf (.builtin id) = pure (.type "method_descriptor")) (h : QM (.builtin id) [.bytes x] σ) :
    OPM C n env ε nm pl (.bytes x) σ QM X := fun A g s v a D r => by
  obtain ⟨t, rfl⟩ := r
  exact getMethod_builtin (typeIs_bytes _ _ _) FB.plainAttrs_bytes slot ty (fun _ e => nomatch e) ⟨[.bytes x], σ, D, TK.refl _, RVs.one rv_bytes, h⟩
theorem meth_K_tup (O : C.Ok) {nm : Str} {id : String} {pl : Sem Bool} {QM : Value → List V → Store → Prop} {a : Addr} {xs : Array Value} {k : Nat} {sl : Array (Option Value)} (slot : Slot "tuple" nm id) (ty : typeOf (.builtin id) = pure (.type "method_descriptor"))
    (hK : C.K.lookup a = some ⟨.type "tuple", none, .seq xs k, sl⟩) (h : QM (.builtin id) [.raw (.ref a)] σ) : OPM C n env ε nm pl (.raw (.ref a)) σ QM X := fun A g s v hA D r => by
  rw [show v = _ from r]
  have ho := D.S.K O _ _ hK
  exact getMethod_builtin ⟨_, ho, rfl⟩ PySem.F.plainAttrs_tuple slot ty (fun a e => by cases e; exact ⟨_, ho, rfl⟩) ⟨[.raw (.ref a)], σ, D, TK.refl _, RVs.one rv_raw, h⟩
theorem append_l {l : Addr} {items : List V} {x : V} (hl : σ l = some (.list items)) (hz : items.length ≤ 1000000) (h : Q .none (upd σ l (.list (items ++ [x])))) : OPL C n env ε (fun vs => call (.builtin "list.append") vs) [.obj l, x] σ Q X := fun A g s vs hA D r => by
  obtain ⟨v, r', rfl, rfl, w, r'', rfl, rx, q⟩ := r
  rw [show r'' = [] from q]
  obtain ⟨vs, hls, hv⟩ := D.S.sim l _ hl
  obtain ⟨k, ho⟩ := id hls
  refine append_pl hls (fun h' hl' hs => ?_) (by rw [hv.length, sizeLine_eq]; omega)
  obtain ⟨D', k'⟩ := D.set (h' := h') (x := .list (items ++ [x])) s.toks hl hs ho (NT.list rfl) fun kk => ⟨_, hl', RVs.append (RVs.mono kk _ _ hv) (RVs.one (RV.mono kk _ _ rx))⟩
  exact ⟨.none, _, D', k', rv_none, h⟩
theorem encode_s {x : Str} (h0 : ∀ c ∈ x.cps, c < 128) (hz : x.cps.size ≤ 1000000) (h : Q (.bytes (x.cps.map fun c => c.toUInt8)) σ) : OPL C n env ε (fun vs => call (.builtin "str.encode") vs) [.str x, .str "ascii"] σ Q X := fun A g s vs hA D r => by
  obtain ⟨v, r', rfl, ⟨t, rfl⟩, w, r'', rfl, ⟨u, rfl⟩, q⟩ := r
  rw [show r'' = [] from q]
  exact call_meets PySem.F.slot_str_encode (typeIs_str _ _ _) PySem.F.entry_str_encode (PySem.F.args_str_encode_2 _ _) (meets_encode h0 (by rw [sizeLine_eq]; omega)) fun t' k => ppt D _ rv_bytes h
theorem decode_b {b : Array UInt8} (h0 : ∀ c ∈ b, c.toNat < 128) (hz : b.size ≤ 1000000) (h : Q (.str ⟨(b.toList.map (·.toNat)).toArray⟩) σ) : OPL C n env ε (fun vs => call (.builtin "bytes.decode") vs) [.bytes b, .str "ascii"] σ Q X := fun A g s vs hA D r => by
  obtain ⟨v, r', rfl, ⟨t, rfl⟩, w, r'', rfl, ⟨u, rfl⟩, q⟩ := r
  rw [show r'' = [] from q]
  exact call_meets FB.slot_bytes_decode (typeIs_bytes _ _ _) FB.entry_bytes_decode (args_decode_2 _ _) (meets_decode2 h0 hz) fun t' k => ppt D _ rv_str h
theorem find_b {c : UInt8} (h : Q (.int (kindAt c)) σ) : OPL C n env ε (fun vs => call (.builtin "bytes.find") vs) [.bytes #[83, 82, 73], .bytes #[c]] σ Q X := fun A g s vs hA D r => by
  obtain ⟨v, r', rfl, ⟨t, rfl⟩, w, r'', rfl, ⟨u, rfl⟩, q⟩ := r
  rw [show r'' = [] from q]
  exact call_meets slot_find (typeIs_bytes _ _ _) entry_find (args_find _ _) (meets_find c t u) fun t' k => ppt D _ rv_int h
end
end Mine
end
section
open PySem PySem.W PyProof.Rows PySem.Calls PySem.Spec
set_option Elab.async false
set_option maxRecDepth 100000
set_option linter.unusedVariables false
set_option linter.unusedSectionVars false
namespace Mine
open PySem.SeqAt
theorem tup_is {h : Heap} {a : Addr} {xs : Array Value} (t : IsTup h a xs) : h.IsTuple a xs := t
mutual
def V.depth : V → Nat
  | .tup l => V.depths l + 1
  | _ => 0
def V.depths : List V → Nat
  | [] => 0
  | x :: l => max x.depth (V.depths l)
end
mutual
def V.eqs : V → Bool
  | .none => true
  | .int _ => true
  | .str _ => true
  | .bytes _ => true
  | .tup l => V.eqss l
  | _ => false
def V.eqss : List V → Bool
  | [] => true
  | x :: l => x.eqs && V.eqss l
end
theorem eq_bytes_same (A : Around) (s : Shared) (b : Array UInt8) (t u : Tok) : EqAt A s (.bytes b t) (.bytes b u) true := fun prog w E Q h => by
  unfold eqBool
  refine wpAny_holding ?_
  refine wpAny_ite_split (fun _ => wpAny_bind (wpAny_rule (wpAny_pure h))) fun _ => ?_
  have k : wpAny (model prog w) A (compareOp .Eq (.bytes b t) (.bytes b u)) (fun v s' => wpAny (model prog w) A (truthOfDropped v) Q E s') E s := by
    refine eq_bytes ?_
    rw [beq_self_eq_true]
    exact wpAny_truthy_bool h
  exact wpAny_bind k
mutual
theorem eq_same : ∀ (x : V) (A : Around) (s : Shared) (v w : Value), RV s.heap x v → RV s.heap x w → x.eqs = true → A.units + x.depth + 1 < cLine → EqAt A s v w true
  | .none, A, s, v, w, r, r', _, _ => by rw [show v = _ from r, show w = _ from r']; exact EqAt.same _
  | .int i, A, s, v, w, ⟨t, e⟩, ⟨u, e'⟩, _, _ => by subst e e'; simpa using EqAt.int_int (A := A) (s := s) i t i u
  | .str i, A, s, v, w, ⟨t, e⟩, ⟨u, e'⟩, _, _ => by subst e e'; simpa using EqAt.str_str (A := A) (s := s) i t i u
  | .bytes i, A, s, v, w, ⟨t, e⟩, ⟨u, e'⟩, _, _ => by subst e e'; exact eq_bytes_same A s i t u
  | .tup l, A, s, v, w, ⟨a, vs, e, ht, hv⟩, ⟨b, ws, e', ht', hw⟩, he, hu => by
    subst e e'
    by_cases hab : a = b
    · subst hab; exact EqAt.same _
    · refine EqAt.of_refs hab ?_
      have := RcAt.tuples (A := A) (s := s) (e := fun _ => true) (tup_is ht) (tup_is ht') (by simp [V.depth] at hu; omega) (fun j h1 h2 => by
        have := eqs_same l A.in1 s vs ws hv hw (by simpa [V.eqs] using he) (by show A.units + 1 + _ + 1 < _; simp [V.depth] at hu; omega) j (by simpa using h1) (by simpa using h2)
        simpa using this)
      have e : ((List.range (min vs.toArray.size ws.toArray.size)).all (fun _ => true) && vs.toArray.size == ws.toArray.size) = true := by
        simp [hv.length, hw.length]
      rw [e] at this
      exact this
  | .bool _, _, _, _, _, _, _, he, _ => by simp [V.eqs] at he
  | .obj _, _, _, _, _, _, _, he, _ => by simp [V.eqs] at he
  | .raw _, _, _, _, _, _, _, he, _ => by simp [V.eqs] at he
theorem eqs_same : ∀ (l : List V) (A : Around) (s : Shared) (vs ws : List Value), RVs s.heap l vs → RVs s.heap l ws → V.eqss l = true → A.units + V.depths l + 1 < cLine → ∀ (j : Nat) (h1 : j < vs.length) (h2 : j < ws.length), EqAt A s vs[j] ws[j] true
  | [], _, _, _, _, r, _, _, _, j, h1, _ => by rw [show _ = [] from r] at h1; simp at h1
  | x :: l, A, s, _, _, ⟨v, vs, e, r1, r2⟩, ⟨w, ws, e', r1', r2'⟩, he, hu, j, h1, h2 => by
    subst e e'
    simp [V.eqss] at he
    simp [V.depths] at hu
    cases j with
    | zero => exact eq_same x A s v w r1 r1' he.1 (by omega)
    | succ j => exact eqs_same l A s vs ws r2 r2' he.2 (by omega) j (by simpa using h1) (by simpa using h2)
end
section
variable {C : Cx} {g : Gh} {σ σ' : Store} {s s' : Shared} {env : Env} {ε : Loc} {n : Nat} {A : Around} {Q : V → Store → Prop} {X : AX → Store → Prop} {QB : Bool → Store → Prop} {QS : Fl → Loc → Store → Prop} {QA : Loc → Store → Prop} {QL : List V → Store → Prop}
theorem tup_shape {l : List V} {A : Around} {s : Shared} {vs ws : List Value} {a b : Addr} (ht : IsTup s.heap a vs.toArray) (ht' : IsTup s.heap b ws.toArray) (hv : RVs s.heap l vs) (hw : RVs s.heap l ws) (he : V.eqss l = true) (hu : A.units + V.depths l + 2 < cLine) :
    (∀ j (h1 : j < vs.toArray.size) (h2 : j < ws.toArray.size), EqAt A.in1 s vs.toArray[j] ws.toArray[j] true) ∧ ((List.range (min vs.toArray.size ws.toArray.size)).all (fun _ => true) && vs.toArray.size == ws.toArray.size) = true :=
  ⟨fun j h1 h2 => by
    have := eqs_same l A.in1 s vs ws hv hw he (by show A.units + 1 + _ + 1 < _; omega) j (by simpa using h1) (by simpa using h2)
    simpa using this, by simp [hv.length, hw.length]⟩
theorem eq_tt {l : List V} (he : V.eqss l = true) (hd : V.depths l ≤ 100) (h : Q (.bool true) σ) : OP2 C n env ε (compareOp .Eq) (.tup l) (.tup l) σ Q X := fun A g s v w hA D ⟨a, vs, e, ht, hv⟩ ⟨b, ws, e', ht', hw⟩ => by
  subst e e'
  have hun := hA.units
  obtain ⟨h1, h2⟩ := tup_shape (A := A) ht ht' hv hw he (by show _ < 9900; omega)
  exact eq_tupleAt (e := fun _ => true) (tup_is ht) (tup_is ht') (hA.urm) h1 (by rw [h2]; exact pp D rv_bool h)
theorem ne_l0 {a b : Addr} {l : List V} (ha : σ a = some (.list l)) (hb : σ b = some (.list [])) (h : Q (.bool (!l.isEmpty)) σ) : OP2 C n env ε (compareOp .NotEq) (.obj a) (.obj b) σ Q X := fun A g s v w hA D r r' => by
  rw [show v = _ from r, show w = _ from r']
  obtain ⟨vs, hls, hv⟩ := D.S.sim a _ ha
  obtain ⟨ws, hls', hw⟩ := D.S.sim b _ hb
  rw [show ws = [] from hw] at hls'
  cases l with
  | nil =>
    rw [show vs = [] from hv] at hls
    exact RcNeAt.lists (e := fun _ => true) hls.isList hls'.isList rfl hA.urm (fun j h1 h2 => by simp at h1) C.prog C.w _ _ (pp D (x := .bool false) rfl h)
  | cons x l =>
    refine RcNeAt.lists_lengths hls.isList hls'.isList ?_ hA.urm C.prog C.w _ _ (pp D (x := .bool true) rfl h)
    simp [hv.length]
theorem eq_l0 {a b : Addr} {l : List V} (ha : σ a = some (.list l)) (hb : σ b = some (.list [])) (h : Q (.bool l.isEmpty) σ) : OP2 C n env ε (compareOp .Eq) (.obj a) (.obj b) σ Q X := fun A g s v w hA D r r' => by
  rw [show v = _ from r, show w = _ from r']
  obtain ⟨vs, hls, hv⟩ := D.S.sim a _ ha
  obtain ⟨ws, hls', hw⟩ := D.S.sim b _ hb
  rw [show ws = [] from hw] at hls'
  cases l with
  | nil =>
    rw [show vs = [] from hv] at hls
    exact RcAt.lists (e := fun _ => true) hls.isList hls'.isList rfl hA.urm (fun j h1 h2 => by simp at h1) C.prog C.w _ _ (pp D (x := .bool true) rfl h)
  | cons x l =>
    refine RcAt.lists_lengths hls.isList hls'.isList ?_ hA.urm C.prog C.w _ _ (pp D (x := .bool false) rfl h)
    simp [hv.length]
def isS (x : Str) : Value → Bool
  | .str y _ => y == x
  | _ => false
theorem any_isS {h : Heap} {x : Str} : ∀ {l : List Str} {vs : List Value}, RVs h (l.map .str) vs → vs.any (isS x) = l.any (· == x)
  | [], _, r => by rw [show _ = [] from r]; rfl
  | y :: l, _, r => by obtain ⟨v, q, rfl, ⟨t, rfl⟩, r2⟩ := r; simp only [List.any_cons, any_isS r2]; rfl
theorem isS_eq {h : Heap} {x : Str} {u : Tok} {A : Around} {s : Shared} : ∀ {l : List Str} {vs : List Value}, RVs h (l.map .str) vs → ∀ y, y ∈ vs → EqAt A s y (.str x u) (isS x y)
  | [], _, r, y, hy => by rw [show _ = [] from r] at hy; simp at hy
  | z :: l, _, r, y, hy => by
    obtain ⟨v, q, rfl, ⟨t, rfl⟩, r2⟩ := r
    rcases List.mem_cons.mp hy with rfl | hy
    · exact EqAt.str_str z t x u
    · exact isS_eq r2 y hy
theorem in_strs {l : List Str} {x : Str} (h : Q (.bool (l.any (· == x))) σ) : OP2 C n env ε (compareOp .In) (.str x) (.tup (l.map .str)) σ Q X := fun A g s v w hA D ⟨t, e⟩ ⟨a, vs, e', ht, hv⟩ => by
  subst e e'
  exact in_tupleAt (isS x) (tup_is ht) (fun y hy => isS_eq hv y (by simpa using hy)) (by rw [List.any_toArray, any_isS hv]; exact pp D rv_bool h)
theorem notin_strs {l : List Str} {x : Str} (h : Q (.bool (!l.any (· == x))) σ) : OP2 C n env ε (compareOp .NotIn) (.str x) (.tup (l.map .str)) σ Q X := fun A g s v w hA D ⟨t, e⟩ ⟨a, vs, e', ht, hv⟩ => by
  subst e e'
  exact notIn_tupleAt (isS x) (tup_is ht) (fun y hy => isS_eq hv y (by simpa using hy)) (by rw [List.any_toArray, any_isS hv]; exact pp D rv_bool h)
end
end Mine
end
section
open PySem PySem.W PyProof.Rows PySem.Calls PySem.Spec
set_option Elab.async false
set_option maxRecDepth 100000
set_option linter.unusedVariables false
set_option linter.unusedSectionVars false
namespace Mine
section
variable {prog : Program} {w : World} {A : Around} {R : Result → Shared → Prop} {h : Heap} {g : Array GenState} {d : Drawn} {t : Nat} {os : OsState}
variable {nm q : Str} {C N : Addr} {bs bm : List Value} {hdct : Bool} {sn : List Str} {sub : List Value} {ab : Bool} {col : Option Bool} {dd : Option Addr} {k0 k1 k2 k3 k5 : Option Value}
abbrev excOb (C T : Addr) : Obj := { cls := .ref C, data := .fields #[.ref T, .none, .none, .none, .bool false, .none] }
theorem exc_check_new {M : Model} {A : Around} {E : Value → Shared → Prop} {rest : List Value} {Q : Unit → Shared → Prop} (hC : h.get? C = some (excClassObj nm q C N bs bm hdct sn sub ab col dd k0 k1 k2 k3 k5 "Exception.__new__"))
    (hE : bm.contains (.type "Exception") = true) (hq : Q () ⟨h, g, d, t, os⟩) : wpAny M A (checkBuiltinCall "Exception.__new__" ⟨.ref C :: rest, []⟩) Q E ⟨h, g, d, t, os⟩ := by
  have F := PySem.F.excBase_Exception
  have hcont : (Value.ref C :: bm).contains (.type "Exception") = true := by rw [List.contains_cons, hE, Bool.or_true]
  have hstar := F.noStar
  simp only [checkBuiltinCall, F.newKind, F.newSplit, F.newRow]
  repeat (first | refine wpAny_loadPart_at hC ?_ | (refine wpAny_isSubtype_exc hC ?_; rw [hcont]) | refine wpAny_staticBase_exc hC ?_ | refine wpAny_madeBy_exc hC ?_ | simp only [bne_self_eq_false, Bool.false_eq_true, if_false] | wp_step)
  exact hq
theorem exc_new {rest : List Value} (hC : h.get? C = some (excClassObj nm q C N bs bm hdct sn sub ab col dd k0 k1 k2 k3 k5 "Exception.__new__"))
    (hE : bm.contains (.type "Exception") = true) (hA : bm.contains (.type "AttributeError") = false) (hN : bm.contains (.type "NameError") = false) (hz : rest.length ≤ sizeLine)
    (hq : R (.ok (.ret (.ref (h.objs.size + 1)))) ⟨(h.push { cls := .type "tuple", data := .seq rest.toArray }).push (excOb C h.objs.size), g, d, t, os⟩) :
    codeAny (model prog w) A (.builtin "Exception.__new__" ⟨.ref C :: rest, []⟩) R ⟨h, g, d, t, os⟩ := by
  have F := PySem.F.excBase_Exception
  have hends := F.ends
  have hcB : (Value.ref C :: bm).contains (.type "Exception") = true := by rw [List.contains_cons, hE, Bool.or_true]
  have hcA : (Value.ref C :: bm).contains (.type "AttributeError") = false := by rw [List.contains_cons, hA]; rfl
  have hcN : (Value.ref C :: bm).contains (.type "NameError") = false := by rw [List.contains_cons, hN]; rfl
  refine codeAny_builtinAt F.entry ?_
  unfold Builtin.«BaseException.__new__»
  refine PySem.wpAt_bind ?_
  show PySem.wpAt _ _ _ (stack >>= _) _ _ _
  refine PySem.wpAt_bind (PySem.wpAt_stack fun p below => PySem.wpAt_of_wpAny ?_)
  wp_walk
  refine PySem.wpAt_of_wpAny ?_
  rw [F.owner]
  repeat (first | with_reducible refine wpAny_madeHere_exc F.canon hC ?_ | with_reducible refine wpAny_loadPart_at hC ?_ | (with_reducible refine wpAny_isSubtype_exc hC ?_; first | rw [hcB] | rw [hcA] | rw [hcN]) | wp_step)
  show R _ _
  rw [Heap.size_push]
  exact hq
theorem exc_core {fI : Addr} {rest : List Value} (hC : h.get? C = some (excClassObj nm q C N bs bm hdct sn sub ab col dd k0 k1 k2 k3 k5 "Exception.__new__"))
    (hE : bm.contains (.type "Exception") = true) (hA : bm.contains (.type "AttributeError") = false) (hN : bm.contains (.type "NameError") = false) (hz : rest.length ≤ sizeLine)
    (hi : Looks (model prog w) h (typeLookup (.ref C) "__init__") (some (.ref fI))) (hb : ∀ self, Looks (model prog w) h (bindSpecial (.ref fI) self) (.ref fI, [self]))
    (hq : codeAny (model prog w) (A.under (.builtin "type.__call__" ⟨.ref C :: rest, []⟩)) (.call (.ref fI) ⟨.ref (h.objs.size + 1) :: rest, []⟩) (InitBack (h.objs.size + 1) R)
      ⟨(h.push { cls := .type "tuple", data := .seq rest.toArray }).push (excOb C h.objs.size), g, d, t, os⟩) :
    codeAny (model prog w) A (.call (.ref C) ⟨rest, []⟩) R ⟨h, g, d, t, os⟩ := by
  have F := PySem.F.excBase_Exception
  have f1 := tc_lookup
  have f2 := tc_bind (.ref C)
  have hT : (⟨h, g, d, t, os⟩ : Shared).TypeIs (.ref C) "type" := ⟨_, hC, rfl⟩
  refine codeAny_of_tree ?_
  show wpAny _ _ (callAny (.ref C) _) _ _ _
  repeat (any_goals (first | assumption | with_reducible refine wpAny_loadPart_at hC ?_ | wp_step))
  refine ⟨rfl, ?_⟩
  refine codeAny_call_builtin_at (Code.quiet_builtin _ (by decide +kernel)) entry_typeCall (wpAny_check_type_call_sub hC ?_)
  repeat (first | with_reducible refine wpAny_loadPart_at hC ?_ | with_reducible refine wpAny_madeBy_exc hC ?_ | wp_step)
  refine codeAny_call_builtin_code (Code.quiet_builtin _ F.quiet) (exc_check_new hC hE ?_)
  refine exc_new hC hE hA hN hz ?_
  show wpAny _ _ _ _ _ _
  have k : ∀ b o, h.get? b = some o → ((h.push { cls := .type "tuple", data := .seq rest.toArray }).push (excOb C h.objs.size)).get? b = some o := fun b o e => Heap.get?_push_of_some _ (Heap.get?_push_of_some _ e)
  have hC₁ := k _ _ hC
  have hget : ((h.push { cls := .type "tuple", data := .seq rest.toArray }).push (excOb C h.objs.size)).get? (h.objs.size + 1) = some (excOb C h.objs.size) := by heap_get
  have hcC : (Value.ref C :: bm).contains (.ref C) = true := by simp
  unfold isInstance
  repeat (first | with_reducible refine wpAny_loadPart_at hget ?_ | wp_step)
  show wpAny _ _ (isSubtype (.ref C) (.ref C)) _ _ _
  refine wpAny_isSubtype_exc hC₁ ?_
  rw [hcC]
  repeat (first | with_reducible refine wpAny_loadPart_at hget ?_ | wp_step)
  show wpAny _ _ (typeLookup (.ref C) _) _ _ _
  refine (hi.keeps k).at ?_
  refine wpAny_holding (wpAny_bind ((hb _).keeps k |>.at ?_))
  refine wpAny_bind (wpAny_call (codeAny_mono hq fun r s' z => ?_))
  rcases r with e | (_ | _ | _ | v)
  · exact z
  · exact z.elim
  · exact z.elim
  · exact z.elim
  · obtain ⟨rfl, z⟩ := z
    wp_walk
    exact z
end
end Mine
end
section
open PySem PySem.W PyProof.Rows PySem.Calls PySem.Spec
set_option Elab.async false
set_option maxRecDepth 100000
set_option linter.unusedVariables false
set_option linter.unusedSectionVars false
namespace Mine
def ExcIn (K : Frag) (c : Addr) : Prop := ∃ nm q N bs bm hdct sn sub ab col dd k0 k1 k2 k3 k5, K.lookup c = some (excClassObj nm q c N bs bm hdct sn sub ab col dd k0 k1 k2 k3 k5 "Exception.__new__") ∧
  bm.contains (.type "Exception") = true ∧ bm.contains (.type "AttributeError") = false ∧ bm.contains (.type "NameError") = false ∧ bm.contains (.type "BaseException") = true
section
variable {C : Cx} {g : Gh} {σ σ' : Store} {s s' : Shared} {env : Env} {ε : Loc} {n : Nat} {A : Around} {Q : V → Store → Prop} {X : AX → Store → Prop} {QB : Bool → Store → Prop} {QS : Fl → Loc → Store → Prop}
theorem CALL_exc (O : C.Ok) {c fI : Addr} {args : List V} (hx : ExcIn C.K c) (hi : findIn C.K (.ref c) "__init__" = some (some (.ref fI))) (hf : isFn C.K (.ref fI) = true) (hz : args.length ≤ 100)
    (h : ∀ x, σ x = none → CALL C n (.ref fI) (.obj x :: args) (upd σ x (.exc c none true)) (fun r σ' => r = .none ∧ Q (.obj x) σ') X) : CALL C (n + 1) (.ref c) args σ Q X := fun A g s vs a S r => by
  obtain ⟨hh, gs, dr, t, os⟩ := s
  have K := S.K O
  obtain ⟨nm, q, N, bs, bm, hdct, sn, sub, ab, col, dd, k0, k1, k2, k3, k5, e0, e1, e2, e3, e4⟩ := hx
  have hl := r.length
  refine exc_core (K _ _ e0) e1 e2 e3 (by rw [hl, sizeLine_eq]; omega) (looks_findIn K hi) (fun self => bind_fn K self (beq_iff_eq.mp hf)) ?_
  have f2 := S.fresh (a := hh.objs.size + 1) (Nat.le_succ _)
  have S1 := S.push ({ cls := .type "tuple", data := .seq vs.toArray }) t
  have S2 := S1.push (excOb c hh.objs.size) t
  have g2 : ((hh.push { cls := .type "tuple", data := .seq vs.toArray }).push (excOb c hh.objs.size)).get? (hh.objs.size + 1) = some (excOb c hh.objs.size) := by
    have := Heap.get?_push_size (hh.push { cls := .type "tuple", data := .seq vs.toArray }) (o := excOb c hh.objs.size) rfl
    rwa [Heap.size_push] at this
  have S4 := S2.add (a := hh.objs.size + 1) (o := .exc c none true) f2.2.1 f2.2.2 ⟨_, _, g2, Nat.lt_of_lt_of_le (by decide : 1 < 6) (Nat.le_refl _), fun _ => rfl⟩
  have k : TK hh ((hh.push { cls := .type "tuple", data := .seq vs.toArray }).push (excOb c hh.objs.size)) := (TK.push _ _).trans (TK.push _ _)
  refine codeAny_mono (h _ f2.1 _ g _ (.ref (hh.objs.size + 1) :: vs) a.make S4 (RVs.cons rv_obj (RVs.mono k _ _ r))) fun r s' z => ?_
  rcases r with e | (_ | _ | _ | v)
  · obtain ⟨x, σ', b, p, q, r, z⟩ := z; exact ⟨x, σ', b, p, k.trans q, r, z⟩
  · exact z
  · exact z
  · exact z
  · obtain ⟨x, σ', p, q, r, rfl, z⟩ := z; exact ⟨r, .obj _, σ', p, k.trans q, rv_obj, z⟩
theorem meth_type (O : C.Ok) {T id : String} {nm : Str} {pl : Sem Bool} {QM : Value → List V → Store → Prop} (ht : typeOf (.type T) = pure (.type "type")) (hs : Manifest.isStub T = false)
    (e : findCls C.K (.type T) (.type "type") nm = some (.val (.builtin id))) (hh : handedIn (.builtin id) = true) (h : QM (.builtin id) [] σ) : OPM C n env ε nm pl (.raw (.type T)) σ QM X := fun A g s v a D r => by
  rw [show v = _ from r]
  have X := D.S.K O
  have hstub : opaqueClassAbove (.type T) = pure none := by unfold opaqueClassAbove; dsimp only; rw [hs]; rfl
  have L0 : Looks C.M s.heap (typeOf (.type T)) (.type "type") := Looks.of_pure ht
  have hg : findIn C.K (.type "type") "__getattribute__" = some (some (.builtin "type.__getattribute__")) := type_tga
  unfold getMethod specialOf
  refine wpAny_bind (wpAny_bind (L0.here ((looks_findIn X hg).here ?_)))
  dsimp only
  rw [if_pos canon_tga]
  have LO : Looks C.M s.heap (opaqueClassAbove (.type T)) none := Looks.of_pure hstub
  have D1 := D.tk (s.toks + 1)
  refine wpAny_bind (wpAny_mono (Q := fun v s' => v = .builtin id ∧ s' = { s with toks := s.toks + 1 }) (E := fun _ _ => False) ?_ (fun v s' z => wpAny_pure ⟨[], σ, ?_, ?_, rfl, ?_⟩) fun _ _ z => z.elim)
  · refine cls_open X LO L0 hg (looks_hook X (r := none) (by rfl)) (by show subIn C.K _ _ = _; rfl) e
      (wpAny_pure (by show wpAny _ _ (handedOut _) _ _ _; rw [handedOut_of hh]; exact wpAny_pure ⟨rfl, rfl⟩))
  · rw [z.2]; exact D1
  · rw [z.2]; exact TK.refl _
  · rw [z.1]; exact h
theorem exc_check_init {nm q : Str} {c N : Addr} {bs bm : List Value} {hdct : Bool} {sn : List Str} {sub : List Value} {ab : Bool} {col : Option Bool} {dd : Option Addr} {k0 k1 k2 k3 k5 : Option Value} {newId : String}
    {M : Model} {h : Heap} {g : Array GenState} {d : Drawn} {t : Nat} {os : OsState} {E : Value → Shared → Prop} {e : Addr} {oe : Obj} {rest : List Value} {Q : Unit → Shared → Prop}
    (hC : h.get? c = some (excClassObj nm q c N bs bm hdct sn sub ab col dd k0 k1 k2 k3 k5 newId)) (hB : bm.contains (.type "Exception") = true) (he : h.get? e = some oe) (hcls : oe.cls = .ref c) (hq : Q () ⟨h, g, d, t, os⟩) :
    wpAny M A (checkBuiltinCall "Exception.__init__" ⟨.ref e :: rest, []⟩) Q E ⟨h, g, d, t, os⟩ := by
  have F := PySem.F.excBase_Exception
  have hcB : (Value.ref c :: bm).contains (.type "Exception") = true := by rw [List.contains_cons, hB, Bool.or_true]
  have hshort := F.noStar
  simp only [checkBuiltinCall, F.initKind, F.initSplit, F.initRow]
  repeat (first | (with_reducible refine wpAny_loadPart_at he ?_; rw [hcls]) | with_reducible refine wpAny_loadPart_at hC ?_ | (with_reducible refine wpAny_isSubtype_exc hC ?_; rw [hcB]) | wp_step)
  refine wpAny_onRaise ?_
  rw [show ∀ (a b : String) (n : Nat), Bind.check ⟨.positional, "*", "Exception", .self, [⟨"args", .varPos, false⟩]⟩ a b n (List.map (fun x => x.fst) ({ pos := Value.ref e :: rest } : Args).kw) = pure () from
    fun a b n => check_star_args _ _ _ _ _ _]
  exact wpAny_pure hq
theorem upd_same {a : Addr} {o : AO} (h : σ a = some o) : upd σ a o = σ := by
  funext b; by_cases hb : b = a
  · subst hb; simp [upd, h]
  · simp [upd, hb]
theorem exc_init (O : C.Ok) {e c : Addr} {d : Option Addr} {fr : Bool} {xs : List V} (hx : ExcIn C.K c) (hσ : σ e = some (.exc c d fr)) (hz : xs.length ≤ 100) (h : Q .none σ) :
    OPL C n env ε (fun vs => call (.builtin "Exception.__init__") vs) (.obj e :: xs) σ Q X := fun A g s vs a D r => by
  obtain ⟨v, rest, rfl, r1, r2⟩ := r
  rw [show v = _ from r1]
  have F := PySem.F.excBase_Exception
  obtain ⟨hh, gs, dr, t, os⟩ := s
  obtain ⟨nm, q, N, bs, bm, hdct, sn, sub, ab, col, dd, k0, k1, k2, k3, k5, e0, e1, e2, e3, e4⟩ := hx
  obtain ⟨ws, sl, ho, hw, hf⟩ := D.S.sim e _ hσ
  have hl := r2.length
  refine wpAny_call (codeAny_call_builtin F.init.plain F.initEntry (exc_check_init (D.S.K O _ _ e0) e1 ho rfl ?_))
  unfold Builtin.«BaseException.__init__»
  dsimp only
  rw [if_neg (by simp)]
  unfold newTuple Builtin.BaseException.bexcPut
  have D1 := D.push { cls := .type "tuple", data := .seq rest.toArray } t
  have ho1 := Heap.get?_push_of_some (h := hh) { cls := .type "tuple", data := .seq rest.toArray } ho
  refine wpAny_bind (wpAny_newObj_type (wpAny_bind (wpAny_bind (wpAny_field ho1 rfl (Array.getElem?_eq_getElem (Nat.lt_of_succ_lt hw)) (wpAny_bind (wpAny_setField ho1 rfl (Nat.lt_of_succ_lt hw) ?_))))) (by show rest.toArray.size ≤ sizeLine; rw [List.size_toArray, hl, sizeLine_eq]; omega))
  have hu := Heap.get?_update_self (h := hh.push { cls := .type "tuple", data := .seq rest.toArray }) (Obj.mapFields (·.setIfInBounds 0 (.ref hh.objs.size))) ho1 rfl
  obtain ⟨D', k⟩ := D1.set (h' := (hh.push { cls := .type "tuple", data := .seq rest.toArray }).update e (Obj.mapFields (·.setIfInBounds 0 (.ref hh.objs.size)))) (x := .exc c d fr) t hσ (Heap.SameBut.update ..) ho1 (NT.fields rfl)
    fun k => ⟨_, _, hu, by simpa using hw, fun q => by rw [Array.getElem?_setIfInBounds]; simpa using hf q⟩
  rw [upd_same hσ] at D'
  have fin : Post C g env ε ⟨hh, gs, dr, t, os⟩ Q .none ⟨(hh.push { cls := .type "tuple", data := .seq rest.toArray }).update e (Obj.mapFields (·.setIfInBounds 0 (.ref hh.objs.size))), gs, dr, t, os⟩ :=
    ⟨.none, σ, D', (TK.push _ _).trans k, rfl, h⟩
  split
  · exact wpAny_letGo (wpAny_pure fin)
  · exact wpAny_pure (wpAny_pure fin)
end
end Mine
end
section
open PySem PySem.W PyProof.Rows PySem.Calls PySem.Spec
open PySem.Builtin PySem.Builtin.ObjectAttr
set_option Elab.async false
set_option maxRecDepth 100000
set_option linter.unusedVariables false
set_option linter.unusedSectionVars false
namespace Mine
inductive ExcT : List Value → Prop
  | base : ExcT [.type "Exception", .type "BaseException", .type "object"]
  | up (c : Addr) (l : List Value) (h : ExcT l) : ExcT (.ref c :: l)
theorem ExcT.refuse (self : Value) {l : List Value} (h : ExcT l) : refuseLoop self "__setattr__" l = pure () := by
  induction h with
  | base => exact PySem.F.store_Exception.passes self
  | up c l h ih => rw [refuseLoop_ref]; exact ih
theorem ExcT.obj {l : List Value} (h : ExcT l) : l.contains (.type "object") = true := by
  induction h with
  | base => decide
  | up c l h ih => rw [List.contains_cons, ih, Bool.or_true]
theorem ExcT.ne {l : List Value} (h : ExcT l) : l.isEmpty = false := by cases h <;> rfl
def excOver (K : Frag) (C : Addr) : Prop := ∃ cd, clsIn K C = some cd ∧ ExcT cd.mro
section
variable {prog : Program} {w : World} {K : Frag} {s : Shared} {A : Around} {x c : Addr} {R : Result → Shared → Prop}
theorem osa_exc {ox : Obj} {od : Option Obj} {name : Str} {tk : Tok} {v : Value} {r : Option Value} (X : K.In s.heap) (I : InstAt s.heap x ox c od) (hp : excOver K c) (ht : takerIn K c name = some r)
    (h : ∀ b, wpAny (model prog w) A.in1 (match r with | some a => setByDescriptor a (.ref x) v | none => storeInOwnDict (.ref x) (.ref c) (.str name tk) name v b)
      (fun fin s' => match fin with | .done f => R (.ok f) s' | .again c' => c'.quiet = true ∧ codeAny (model prog w) A c' R s') (fun e s' => R (.error e) s') s) :
    codeAny (model prog w) A (.call (.builtin "object.__setattr__") ⟨[.ref x, .str name tk, v], []⟩) R s := by
  have SF := PySem.F.store_object
  obtain ⟨cd, hc, ho⟩ := hp
  have ne := ho.ne
  have sub : Looks (model prog w) s.heap (isInstance (.ref x) (.type "object")) true := I.type.andThen (looks_mroIn X (by unfold mroIn; rw [hc, Option.bind_some, if_neg (by rw [ne]; decide), ho.obj]))
  refine codeAny_call_builtin SF.slot.plain SF.entry (@check_slot (model prog w) _ _ s "object.__setattr__" "object" "__setattr__" (.ref x) [.str name tk, v] [] _ SF.kind SF.split sub (SF.args (.ref x) (.str name tk) v) ?_)
  obtain ⟨attr, ha, hr⟩ := Option.bind_eq_some_iff.mp ht
  have hm : Looks (model prog w) s.heap (mroOf (.ref c)) cd.mro := (looks_clsIn X hc).andThen .now
  have L3 : Looks (model prog w) s.heap (storeTaker? attr) r := by
    cases attr with
    | none => cases hr; exact .now
    | some a =>
      obtain ⟨b, hb, rfl⟩ := Option.map_eq_some_iff.mp hr
      refine (looks_takesIn X hb).andThen ?_
      cases b <;> exact .now
  rw [osa_eq, refuse_eq]
  refine wpAny_bind (wpAny_bind (I.type.here (wpAny_bind (hm.here ?_))))
  rw [ho.refuse]
  refine wpAny_pure (wpAny_bind (I.type.here (wpAny_bind ((looks_findIn X ha).here (wpAny_bind (L3.here ?_))))))
  exact h _
end
section
variable {C : Cx} {g : Gh} {σ σ' : Store} {s s' : Shared} {env : Env} {ε : Loc} {n : Nat} {A : Around} {Q : V → Store → Prop} {X : AX → Store → Prop} {QB : Bool → Store → Prop} {QS : Fl → Loc → Store → Prop}
theorem RNs.noRef {h : Heap} : ∀ {fs : List (Str × V)} {es : List DictEntry}, RNs h fs es → es.any (·.refKey) = false
  | [], es, r => by rw [show es = [] from r]; rfl
  | (k, y) :: fs, es, r => by obtain ⟨e, q, t, rfl, r0, _, r2⟩ := r; rw [List.any_cons, r2.noRef]; simp [DictEntry.refKey, r0]
theorem store_ns {d : Addr} {fs : List (Str × V)} {nm : Str} {y : V} {v : Value} {tk : Tok} {QF : Fin → Shared → Prop} {E : Value → Shared → Prop} (D : Hd C g env ε σ s) (hd : σ d = some (.ns fs)) (hr : RV s.heap y v) (hz : fs.length < 900)
    (h : ∀ h' tk, Hd C g env ε (upd σ d (.ns (putA nm y fs))) { s with heap := h', toks := tk } → TK s.heap h' → QF (.done (.ret .none)) { s with heap := h', toks := tk }) : wpAny C.M A (storeInDict d (.str nm tk) nm v) QF E s := by
  obtain ⟨es, m, ho, rn⟩ := D.S.sim d _ hd
  unfold storeInDict newKeyGuard
  refine wpAny_bind (wpAny_pure (wpAny_bind ?_))
  unfold nsSet
  refine wpAny_bind (wpAny_bind (wpAny_askSetting (wpAny_pure (wpAny_bind (wpAny_mkText (wpAny_bind (wpAny_loadPart ho ?_)))))))
  have c0 : (!(es.toArray.any (·.key.isStr nm)) && es.toArray.any (·.refKey)) = false := by
    rw [List.any_toArray, List.any_toArray, rn.noRef, Bool.and_false]
  dsimp only
  rw [aRefKeyMayBeTheName_at, c0]
  refine wpAny_updatePart ho ?_
  have hf : (Obj.putName nm (PyData.keyHash C.w.params nm) (.str nm s.toks) v (dictOf es m)) = dictOf (putL nm (PyData.keyHash C.w.params nm) (.str nm s.toks) v es) (putN nm es m) := putName_dict ..
  have hu := Heap.get?_update_self (h := s.heap) (Obj.putName nm (PyData.keyHash C.w.params nm) (.str nm s.toks) v) ho (by rw [hf]; rfl)
  have rp : RNs s.heap (putA nm y fs) (putL nm (PyData.keyHash C.w.params nm) (.str nm s.toks) v es) := RNs.put hr rn
  have hlen := putA_length nm y fs
  have hl2 := rp.length
  rw [hf] at hu
  refine wpAny_bind (wpAny_lookBehind hu (pastItsLine_dict (by rw [List.size_toArray, sizeLine_eq]; omega)) ?_)
  obtain ⟨D', k⟩ := D.set (h' := s.heap.update d _) (x := .ns (putA nm y fs)) (s.toks + 1) hd (Heap.SameBut.update ..) ho (NT.dict rfl) fun k => ⟨_, _, hu, rp.mono k⟩
  exact wpAny_pure (h _ _ D' k)
def SA (C : Cx) (n : Nat) (env : Env) (ε : Loc) (nm : Str) (o : V) (y : V) (σ : Store) (QS : Fl → Loc → Store → Prop) (X : AX → Store → Prop) : Prop :=
  ∀ A g s w v, AOk C n g (some env) A → Hd C g env ε σ s → RV s.heap o w → RV s.heap y v → wpAny C.M A (setAttr w nm v) (fun _ s' => PostS C g env s QS .next s') (PostX C g env s X) s
abbrev Qsa2 (C : Cx) (n : Nat) (env : Env) (ε : Loc) (nm : Str) (y : V) (QS : Fl → Loc → Store → Prop) (X : AX → Store → Prop) : V → Store → Prop := fun ov σ₂ => SA C n env ε nm ov y σ₂ QS X
abbrev Qsa1 (C : Cx) (n : Nat) (env : Env) (ε : Loc) (o : Expr) (nm : Str) (QS : Fl → Loc → Store → Prop) (X : AX → Store → Prop) : V → Store → Prop := fun y σ₁ => EV C n env ε o σ₁ (Qsa2 C n env ε nm y QS X) X
theorem TS_SetAttrG {o e : Expr} {nm : Str} {p' pos : Pos} (h : EV C n env ε e σ (Qsa1 C n env ε o nm QS X) X)
    (hs : swapsWith e (some (.Attribute o nm p')) pos.line env = pure false := by rfl) : TS C n env ε (exec (.Assign [.Attribute o nm p'] e pos) env) σ QS X := fun A g s a D =>
  plainObj_wpAny_Assign_Attribute (h.use a D (fun v y σ₁ s₁ D₁ k₁ r₁ h₁ => h₁.use a D₁ (fun w z σ₂ s₂ D₂ k₂ r₂ q => by
    exact wpAny_mono (q A g s₂ w v a D₂ r₂ (RV.mono k₂ _ _ r₁)) (fun _ _ z => z.trans (k₁.trans k₂)) fun _ _ z => z.trans (k₁.trans k₂)) fun _ _ z => z.trans k₁) fun _ _ z => z) hs
theorem exc_at {D : Prop} (S : St C g σ s) {x c : Addr} {d : Option Addr} {fr : Bool} (hx : σ x = some (.exc c d fr)) (hd : ∀ a, d = some a → ∃ fs, σ a = some (.ns fs)) : ∃ ox od, InstAt s.heap x ox c od ∧ s.heap.get? x = some ox ∧ (∃ vs sl, ox = { cls := .ref c, dict := d, data := .fields vs, slots := sl } ∧ 1 < vs.size ∧ (fr = true → vs[1]? = some .none)) ∧
    (match d with | none => od = none | some a => ∃ es m, od = some (dictOf es m)) := by
  obtain ⟨vs, sl, ho, hw⟩ := S.sim x _ hx
  cases d with
  | none => exact ⟨_, none, ⟨ho, rfl, rfl, trivial⟩, ho, ⟨vs, sl, rfl, hw⟩, rfl⟩
  | some a =>
    obtain ⟨fs, hf⟩ := hd a rfl
    obtain ⟨es, m, e, r⟩ := S.sim a _ hf
    exact ⟨_, some (dictOf es m), ⟨ho, rfl, rfl, e⟩, ho, ⟨vs, sl, rfl, hw⟩, es, m, rfl⟩
theorem SA_exc1 (O : C.Ok) {x c d : Addr} {fr : Bool} {fs : List (Str × V)} {nm : Str} {y : V} (hx : σ x = some (.exc c (some d) fr)) (hd : σ d = some (.ns fs)) (hz : fs.length < 900)
    (h1 : findIn C.K (.ref c) "__setattr__" = some (some (.builtin "object.__setattr__"))) (h2 : excOver C.K c) (h3 : takerIn C.K c nm = some none) (h4 : hasDictIn C.K c = true)
    (h : QS .next ε (upd σ d (.ns (putA nm y fs)))) : SA C n env ε nm (.obj x) y σ QS X := fun A g s w v a D rw rv => by
  rw [show w = _ from rw]
  obtain ⟨ox, od, I, ho, ⟨vs, sl, rfl, _⟩, _⟩ := exc_at (D := True) D.S hx fun a e => by cases e; exact ⟨_, hd⟩
  have XK := D.S.K O
  refine set_plain XK I h1 ?_
  have D1 := D.tk (s.toks + 1)
  refine osa_exc (s := { s with toks := s.toks + 1 }) XK I h2 h3 fun b => ?_
  obtain ⟨cd, hc, hd'⟩ := any_some h4
  refine wpAny_bind (wpAny_pure (wpAny_bind (wpAny_bind (wpAny_loadPart I.at_ (wpAny_bind (Looks.here (s := { s with toks := s.toks + 1 }) (looks_clsIn XK hc) ?_))))))
  rw [hd']
  refine wpAny_pure (a := some d) ?_
  exact store_ns (s := { s with toks := s.toks + 1 }) D1 hd rv hz fun h' tk D' k => ⟨.next, ε, _, D', k, rfl, h⟩
theorem SA_exc0 (O : C.Ok) {x c : Addr} {fr : Bool} {nm : Str} {y : V} (hx : σ x = some (.exc c none fr))
    (h1 : findIn C.K (.ref c) "__setattr__" = some (some (.builtin "object.__setattr__"))) (h2 : excOver C.K c) (h3 : takerIn C.K c nm = some none) (h4 : hasDictIn C.K c = true)
    (h : ∀ d, d ≠ x → σ d = none → QS .next ε (upd (upd σ x (.exc c (some d) fr)) d (.ns [(nm, y)]))) : SA C n env ε nm (.obj x) y σ QS X := fun A g s w v a D rw rv => by
  rw [show w = _ from rw]
  obtain ⟨ox, od, I, ho, ⟨vs, sl, rfl, hw⟩, _⟩ := exc_at (D := True) D.S hx fun a e => by cases e
  have XK := D.S.K O
  refine set_plain XK I h1 ?_
  have D1 := D.tk (s.toks + 1)
  refine osa_exc (s := { s with toks := s.toks + 1 }) XK I h2 h3 fun b => ?_
  obtain ⟨cd, hc, hd'⟩ := any_some h4
  refine wpAny_bind (wpAny_pure (wpAny_bind (wpAny_bind (wpAny_loadPart I.at_ (wpAny_bind (Looks.here (s := { s with toks := s.toks + 1 }) (looks_clsIn XK hc) ?_))))))
  rw [hd']
  dsimp only
  rw [if_neg (by decide)]
  rw [if_neg (by simp [typeHasDict])]
  have ho1 := Heap.get?_push_of_some (h := s.heap) { cls := .type "dict", data := .dict #[] } ho
  have f0 := D.fresh (a := s.heap.objs.size) (Nat.le_refl _)
  have D2 := D1.push { cls := .type "dict", data := .dict #[] } (s.toks + 1)
  have hne : s.heap.objs.size ≠ x := Nat.ne_of_gt (Heap.lt_size ho)
  have hu := Heap.get?_update_self (h := s.heap.push { cls := .type "dict", data := .dict #[] }) (fun o => { o with dict := some s.heap.objs.size }) ho1 rfl
  obtain ⟨D3, k3⟩ := D2.set (h' := (s.heap.push { cls := .type "dict", data := .dict #[] }).update x (fun o => { o with dict := some s.heap.objs.size })) (x := .exc c (some s.heap.objs.size) fr) (s.toks + 1) hx (Heap.SameBut.update ..) ho1 (NT.fields rfl)
    fun k => ⟨vs, sl, hu, hw⟩
  have hgd : ((s.heap.push { cls := .type "dict", data := .dict #[] }).update x (fun o => { o with dict := some s.heap.objs.size })).get? s.heap.objs.size = some { cls := .type "dict", data := .dict #[] } :=
    (Heap.get?_update_ne _ _ _ _ hne).trans (Heap.get?_push_size _ rfl)
  have D4 := D3.add (a := s.heap.objs.size) (o := .ns []) f0.2.1 f0.2.2.1 f0.2.2.2 ⟨[], 0, hgd, rfl⟩
  refine wpAny_bind (wpAny_alloc' ?_)
  refine wpAny_bind (wpAny_update' ho1 ?_)
  refine wpAny_pure ?_
  refine wpAny_mono (Q := fun fin s' => fin = .done (.ret .none) ∧ ∃ h' tk, s' = { s with heap := h', toks := tk } ∧ Hd C g env ε (upd (upd σ x (.exc c (some s.heap.objs.size) fr)) s.heap.objs.size (.ns [(nm, y)])) { s with heap := h', toks := tk } ∧ TK s.heap h') (E := fun _ _ => False) ?_ (fun fin s' z => ?_) fun _ _ z => z.elim
  · refine store_ns (s := { s with heap := (s.heap.push { cls := .type "dict", data := .dict #[] }).update x (fun o => { o with dict := some s.heap.objs.size }), toks := s.toks + 1 }) D4 (upd_self _ _ _) (RV.mono ((TK.push _ _).trans k3) _ _ rv) (by simp) fun h' tk D' k => ⟨rfl, h', tk, rfl, ?_, ((TK.push _ _).trans k3).trans k⟩
    have : upd (upd (upd σ x (.exc c (some s.heap.objs.size) fr)) s.heap.objs.size (.ns [])) s.heap.objs.size (.ns (putA nm y [])) = upd (upd σ x (.exc c (some s.heap.objs.size) fr)) s.heap.objs.size (.ns [(nm, y)]) := by
      funext b; by_cases hb : b = s.heap.objs.size <;> simp [upd, hb, putA]
    rw [← this]; exact D'
  · obtain ⟨rfl, h', tk, rfl, D', k⟩ := z
    exact ⟨.next, ε, _, D', k, rfl, h _ hne f0.1⟩
end
end Mine
end
section
open PySem PySem.W PyProof.Rows PySem.Calls PySem.Spec
set_option Elab.async false
set_option maxRecDepth 100000
set_option linter.unusedVariables false
set_option linter.unusedSectionVars false
namespace Mine
section
variable {C : Cx} {g : Gh} {σ σ' : Store} {s s' : Shared} {env : Env} {ε : Loc} {n : Nat} {A : Around} {Q : V → Store → Prop} {X : AX → Store → Prop} {QB : Bool → Store → Prop} {QS : Fl → Loc → Store → Prop}
theorem Hd.drop (D : Hd C g env ε σ s) (a : Addr) : Hd C g env ε (Mine.drop σ a) s := D.weaken fun b o e => by
  by_cases hb : b = a
  · subst hb; simp [Mine.drop] at e
  · rw [drop_ne _ hb] at e; exact e
theorem TS_Raise (O : C.Ok) {e : Expr} {pos : Pos} (h : EV C (n + 1) env ε e σ (fun x σ₁ => ∃ a c d, x = .obj a ∧ σ₁ a = some (.exc c (some d) true) ∧ ExcIn C.K c ∧ X ⟨c, d⟩ (drop σ₁ a)) X) :
    TS C (n + 1) env ε (exec (.Raise (some e) none pos) env) σ QS X := fun A g s a D => by
  show wpAny C.M A (do standAt pos; raiseStmt env (some (do let v ← eval e env; standAt pos; pure v)) none) _ _ s
  refine wpAny_bind (wpAny_standAt ?_)
  unfold raiseStmt
  dsimp only
  refine wpAny_bind (wpAny_bind (h.use a D (fun v x σ₁ s₁ D₁ k₁ r₁ h₁ => wpAny_bind (wpAny_standAt (wpAny_pure ?_))) fun _ _ z => z))
  obtain ⟨x, c, d, rfl, hx, hE, q⟩ := h₁
  rw [show v = _ from r₁]
  obtain ⟨nm, qn, N, bs, bm, hdct, sn, sub, ab, col, dd, k0, k1, k2, k3, k5, e0, e1, e2, e3, e4⟩ := hE
  have hC := D₁.S.K O _ _ e0
  obtain ⟨vs, sl, ho, hw, hf⟩ := D₁.S.sim x _ hx
  have hcB : (Value.ref c :: bm).contains (.type "BaseException") = true := by rw [List.contains_cons, e4, Bool.or_true]
  have hnt : ∀ {Q' : Bool → Shared → Prop}, Q' false s₁ → wpAny C.M A (isType (.ref x)) Q' (PostX C g env s X) s₁ := by
    intro Q' hq
    simp only [isType, loadHead]
    refine wpAny_bind (wpAny_loadPart ho ?_)
    exact wpAny_pure hq
  have hty : ∀ {Q' : Value → Shared → Prop}, Q' (.ref c) s₁ → wpAny C.M A (typeOf (.ref x)) Q' (PostX C g env s X) s₁ := by
    intro Q' hq
    exact wpAny_bind (wpAny_loadPart ho (wpAny_pure hq))
  obtain ⟨hh, gs, dr, t, os⟩ := s₁
  refine wpAny_bind (wpAny_pure ?_)
  dsimp only
  refine wpAny_bind (wpAny_holding ?_)
  unfold excFromValue isExcClass
  refine wpAny_bind (wpAny_bind (hnt ?_))
  simp only [Bool.false_eq_true, if_false]
  refine wpAny_pure ?_
  simp only [Bool.false_eq_true, if_false]
  refine wpAny_bind ?_
  unfold isInstance
  refine wpAny_bind (hty (wpAny_isSubtype_exc hC ?_))
  rw [hcB]
  simp only [if_true]
  refine wpAny_pure ?_
  refine wpAny_bind (hnt ?_)
  simp only [Bool.false_eq_true, if_false]
  unfold raisedInstance
  refine wpAny_bind (wpAny_bind (hty (wpAny_bind ?_)))
  refine wpAny_bind (wpAny_loadPart hC (wpAny_pure ?_))
  rw [if_pos (by rfl)]
  refine wpAny_pure ?_
  unfold setFlight
  refine wpAny_bind (wpAny_bind (wpAny_field ho rfl (hf rfl) ?_))
  rw [if_neg (by decide)]
  refine wpAny_pure (wpAny_raiseNew_none a.hn ?_)
  have hg := D₁.S.gσ x (by rw [hx]; exact nofun)
  have hH := D₁.S.hσ x (by rw [hx]; exact nofun)
  refine ⟨⟨c, d⟩, drop σ₁ x, ε, false, D₁.drop x, k₁, ⟨x, _, vs, rfl, hH, by simp [drop], hg, fun z => ?_, ho, rfl, rfl, rfl, hw, .inl ⟨rfl, hf rfl⟩⟩, q⟩
  have := D₁.F.σL
  rw [Option.some.inj z, hx] at this; cases this
end
end Mine
end
section
open PySem PySem.W PyProof.Rows PySem.Calls PySem.Spec
set_option Elab.async false
set_option maxRecDepth 100000
set_option linter.unusedVariables false
set_option linter.unusedSectionVars false
namespace Mine
section
variable {C : Cx} {g : Gh} {σ σ' : Store} {s s' : Shared} {env : Env} {ε : Loc} {n : Nat} {A : Around} {Q : V → Store → Prop} {X X₀ : AX → Store → Prop} {QB : Bool → Store → Prop} {QS : Fl → Loc → Store → Prop}
theorem AOk.mark {L : Option Env} {e : Value} (a : AOk C n g L A) : AOk C 0 g L (A.mark (some e)) :=
  ⟨.inr rfl, by have := a.depth; show A.depth + _ < _; omega, by have := a.units; show A.units + _ < _; omega, a.frames⟩
theorem PostX.none_ {e : Value} {s₀ s₁ : Shared} (h : PostX C g env s₀ (fun _ _ => False) e s₁) : False := let ⟨_, _, _, _, _, _, _, q⟩ := h; q
inductive RXt (C : Cx) (g : Gh) (env : Env) (ε : Loc) (σ : Store) (s : Shared) (x : AX) (e : Value) : Prop
  | mk (a T : Addr) (vs : Array Value) (oe oT : Obj) (ts : Array Value) (e0 : e = .ref a) (e1 : oe = ({ cls := .ref x.C, dict := some x.d, data := .fields vs, slots := oe.slots } : Obj)) (e2 : 1 < vs.size) (e3 : T ≠ a) (e4 : oT.cls = .type "traceback") (e5 : oT.data = .fields ts) (e6 : 3 < ts.size) (e7 : vs[1]? = some (.ref T))
      (e8 : Hd C g env ε (upd (upd σ a (.raw oe)) T (.raw oT)) s) (e9 : σ a = none) (e10 : σ T = none) (e11 : g a = none) (e12 : C.H.get? a = none) (e13 : C.H.get? T = none) (e14 : a ≠ env.locals) (e15 : T ≠ env.locals)
theorem RX.tell {x : AX} {e : Value} (D : Hd C g env ε σ s) (r : RX C g σ s.heap (some env.locals) e x true) : RXt C g env ε σ s x e := by
  obtain ⟨a, oe, vs, rfl, hH, hσ, hg, hL, ho, hc, hdi, hd, hsz, tb⟩ := r.ex
  rcases tb with ⟨q, _⟩ | ⟨T, oT, ts, h1, t2, t3, t4, t5, t6, t7, t8, t9⟩
  · cases q
  · have gT := g_none_of D.S t6 t8 t7
    have La : a ≠ env.locals := fun q => hL (by rw [q])
    have LT : T ≠ env.locals := fun q => t5 (by rw [q])
    have D1 := D.add (a := a) (o := .raw oe) hg hH La ho
    have D2 := D1.add (a := T) (o := .raw oT) gT t3 LT t6
    refine ⟨a, T, vs, oe, oT, ts, rfl, ?_, hsz, t2, t7, t8, t9, h1, D2, hσ, t4, hg, hH, t3, La, LT⟩
    obtain ⟨c, d, dt, sl⟩ := oe
    cases hc; cases hdi; cases hd; rfl
theorem RX.untell {a T : Addr} {vs ts : Array Value} {oe oT : Obj} {x : AX} (D : Hd C g env ε (upd (upd σ a (.raw oe)) T (.raw oT)) s) (h0 : oe = ({ cls := .ref x.C, dict := some x.d, data := .fields vs, slots := oe.slots } : Obj)) (h1 : 1 < vs.size) (h2 : T ≠ a)
    (h3 : oT.cls = .type "traceback") (h4 : oT.data = .fields ts) (h5 : 3 < ts.size) (h6 : vs[1]? = some (.ref T)) (ha : σ a = none) (hT : σ T = none) (hg : g a = none) (ha' : C.H.get? a = none) (hT' : C.H.get? T = none) (La : a ≠ env.locals) (LT : T ≠ env.locals) :
    Hd C g env ε σ s ∧ RX C g σ s.heap (some env.locals) (.ref a) x true := by
  have e1 : s.heap.get? T = some oT := D.S.sim T (.raw oT) (upd_self _ _ _)
  have e2 : s.heap.get? a = some oe := D.S.sim a (.raw oe) (by rw [upd_ne _ _ (Ne.symm h2), upd_self])
  refine ⟨D.weaken fun b o e => ?_, ⟨a, oe, vs, rfl, ha', ha, hg, fun q => La (Option.some.inj q).symm, e2, by rw [h0], by rw [h0], by rw [h0], h1, .inr ⟨T, oT, ts, h6, h2, hT', hT, fun q => LT (Option.some.inj q).symm, e1, h3, h4, h5⟩⟩⟩
  have b1 : b ≠ T := fun q => by rw [q, hT] at e; cases e
  have b2 : b ≠ a := fun q => by rw [q, ha] at e; cases e
  rw [upd_ne _ _ b1, upd_ne _ _ b2]; exact e
end
end Mine
end
section
open PySem PySem.W PyProof.Rows PySem.Calls PySem.Spec
open PySem.Builtin PySem.Builtin.ObjectAttr
set_option Elab.async false
set_option maxRecDepth 100000
set_option linter.unusedVariables false
set_option linter.unusedSectionVars false
namespace Mine
theorem slot_bga : Slot "Exception" "__getattribute__" "BaseException.__getattribute__" := .of (owner := "BaseException") (n := "__getattribute__") (by rw [typeLookup_type, builtinLookup_eq_fast]; kernel_rfl) (by decide +kernel) (by decide +kernel) (by decide +kernel)
    (by first | exact .inl (by decide +kernel) | exact .inr (by decide +kernel)) (by rw [isSubtype_type]; kernel_rfl)
section
variable {C : Cx} {g : Gh} {σ σ' : Store} {s s' : Shared} {env : Env} {ε : Loc} {n : Nat} {A : Around} {Q : V → Store → Prop} {X X₀ : AX → Store → Prop} {QB : Bool → Store → Prop} {QS : Fl → Loc → Store → Prop}
theorem attr_exc (O : C.Ok) {x c d : Addr} {fr : Bool} {fs : List (Str × V)} {nm : Str} {y : V} {attr : Option Value} {ex : Bool} (hx : σ x = some (.exc c (some d) fr)) (hd : σ d = some (.ns fs)) (hl : fs.lookup nm = some y) (hp : y.plain = true)
    (hga : findIn C.K (.ref c) "__getattribute__" = some (some (.builtin "BaseException.__getattribute__"))) (hk : findIn C.K (.ref c) "__getattr__" = some none) (h2 : hasDictIn C.K c = true) (h3 : findIn C.K (.ref c) nm = some attr) (h4 : noGet C.K attr = true)
    (hs : subIn C.K (.ref c) (.type "BaseException") = some true) (h : Q y σ) : OP1 C n env ε (fun v => getAttr v nm ex) (.obj x) σ Q X := fun A g s v a D r => by
  rw [show v = _ from r]
  obtain ⟨vs, sl, ho, hw⟩ := D.S.sim x _ hx
  obtain ⟨es, m, e, rn⟩ := D.S.sim d _ hd
  have I : InstAt s.heap x { cls := .ref c, dict := some d, data := .fields vs, slots := sl } c (some (dictOf es m)) := ⟨ho, rfl, rfl, e⟩
  have z := RNs.get nm rn
  rw [hl] at z
  obtain ⟨w, z1, z2⟩ := z
  have K := D.S.K O
  have hf := findObj_own (od := dictOf es m) h2 h3 h4 ((lookIn_dict ..).trans z1)
  have LT : Looks C.M s.heap (typeOf (.ref x)) (.ref c) := I.type
  refine wpAny_bind (wpAny_mkText (wpAny_holding (wpAny_bind (LT _ _ _ _ (fun _ _ e => e) (wpAny_bind (looks_findIn K hga _ _ _ _ (fun _ _ e => e) ?_))))))
  dsimp only
  rw [show (onTheHeap (Value.ref c) && Value.builtin "BaseException.__getattribute__" == Value.builtin "object.__getattribute__") = false from by rw [show (Value.builtin "BaseException.__getattribute__" == Value.builtin "object.__getattribute__") = false from by decide +kernel, Bool.and_false], if_neg (by decide)]
  have hb : Looks C.M s.heap (hookBefore (.ref c)) none := looks_hook K (by simp [onTheHeap]; exact hk)
  refine wpAny_bind (hb _ _ _ _ (fun _ _ e => e) (wpAny_bind (wpAny_attempt (wpAny_holding ?_))))
  unfold callGetattribute
  rw [show (ex && onTheHeap (Value.builtin "BaseException.__getattribute__")) = false from Bool.and_false _, if_neg (by decide)]
  unfold boundAndCalled
  rw [slot_bga.bind]
  refine wpAny_bind (wpAny_pure ?_)
  show wpAny _ _ (call (.builtin "BaseException.__getattribute__") [.ref x, .str nm s.toks]) _ _ _
  refine wpAny_call ?_
  refine codeAny_call_builtin slot_bga.plain PySem.F.entry_bexc_ga ?_
  refine @check_slot C.M _ _ { s with toks := s.toks + 1 } "BaseException.__getattribute__" "BaseException" "__getattribute__" (.ref x) [.str nm s.toks] [] _ (by decide +kernel) (by decide +kernel) (LT.andThen (looks_subIn K hs)) (PySem.F.args_bexc_ga (.ref x) (.str nm s.toks)) ?_
  have L1 := looks_find (M := C.M) K I hf
  refine wpAny_bind (wpAny_pure (wpAny_bind (wpAny_pure (wpAny_bind (Looks.here (s := { s with toks := s.toks + 1 }) LT (wpAny_bind (Looks.here (s := { s with toks := s.toks + 1 }) L1 ?_)))))))
  refine wpAny_pure ?_
  show wpAny _ _ (handedOut w) _ _ _
  rw [handedOut_of (handed_of z2 hp)]
  exact wpAny_pure (ppt D _ z2 h)
theorem Hd.forget (D : Hd C g env ε σ s) : Hd C g env [] σ s := ⟨D.S, D.F.gL, D.F.hL, D.F.σL, let ⟨m, h, _⟩ := D.F.ns; ⟨m, h, nofun⟩⟩
theorem Hd.lost {h' : Heap} {m : Str → Option Value} (D : Hd C g env ε σ s) (tk : Nat) (hn : h'.Ns env.locals m) (hs : Heap.SameBut env.locals s.heap h') : Hd C g env [] σ { s with heap := h', toks := tk } ∧ TK s.heap h' := by
  obtain ⟨o, es, ep, q, r1⟩ := D.F.obj
  obtain ⟨S', k⟩ := D.S.turn tk hs D.F.gL D.F.hL q (NT.dict r1)
  have e : Mine.drop σ env.locals = σ := by
    funext b; by_cases hb : b = env.locals
    · subst hb; simp [Mine.drop, D.F.σL]
    · simp [Mine.drop, hb]
  rw [e] at S'
  exact ⟨⟨S', D.F.gL, D.F.hL, D.F.σL, m, hn, nofun⟩, k⟩
theorem TS_TryAs (O : C.Ok) {c : Addr} {body suite : List Stmt} {b₀ : Stmt} {t : Expr} {nm : Str} {hpos pos : Pos} (hf : env.frame = some env.locals) (hE : ExcIn C.K c)
    (h : TS C n env ε (execs body env) σ QS X₀) (ht : ∀ ε σ, EV C 0 env ε t σ (fun v σ₂ => v = .raw (.ref c) ∧ σ₂ = σ) (fun _ _ => False))
    (hc : ∀ ax σ', X₀ ax σ' → ax.C = c) (hl : env.kindOf nm = some .local) (hk : env.scope.kind = .function) (hp : (env.scope.kind == .class || (env.scope.kind == .module && env.locals != env.globals)) = false)
    (hb : ∀ ε ax σ' x, X₀ ax σ' → σ' x = none → TS C 0 env ((nm, .obj x) :: ε) (execs (b₀ :: suite) env) (upd σ' x (.exc c (some ax.d) false)) (fun f _ σ₂ => (∃ y, f = .ret y) ∧ QS f [] σ₂) (fun _ _ => False)) :
    TS C n env ε (exec (.Try body [.ExceptHandler (some t) (some nm) (b₀ :: suite) hpos] [] [] pos) env) σ QS X := fun A g s a D => by
  refine wpAny_Try_except (h.use a D (fun f x ε₁ σ₁ s₁ D₁ k₁ rf q => ?_) fun e s₁ z => ?_)
  · cases x with
    | next => rw [show f = _ from rf]; exact wpAny_execs_nil ⟨.next, ε₁, σ₁, D₁, k₁, rfl, q⟩
    | brk => rw [show f = _ from rf]; exact ⟨.brk, ε₁, σ₁, D₁, k₁, rfl, q⟩
    | cont => rw [show f = _ from rf]; exact ⟨.cont, ε₁, σ₁, D₁, k₁, rfl, q⟩
    | ret y => obtain ⟨v, rfl, rv⟩ := rf; exact ⟨.ret y, ε₁, σ₁, D₁, k₁, ⟨v, rfl, rv⟩, q⟩
  obtain ⟨ax, σ₁, ε₁, b, D₁, k₁, rx, q⟩ := z
  refine note_rx a D₁ hf rx fun h₂ D₂ k₂ rx₂ => flight_rx D₂ rx₂ fun h₃ D₃ k₃ rx₃ => ?_
  obtain ⟨x, T, vs, oe, oT, ts, rfl, u0, u1, u2, u3, u4, u5, u6, D₄, v1, v2, v3, v4, v5, v6, v7⟩ := rx₃.tell D₃
  have hcc := hc _ _ q
  have am : AOk C 0 g (some env) (A.mark (some (.ref x))) := a.mark
  refine wpAny_handleBy_cons (codeAny_handlers_test ((ht ε₁ _).use am D₄ (fun w y σ₅ s₅ D₅ k₅ r₅ ⟨y1, y2⟩ => ?_) fun _ _ z => z.none_.elim)) (by intro q; cases q)
  subst y1 y2
  rw [show w = _ from r₅]
  obtain ⟨D₆, rx₆⟩ := RX.untell D₅ u0 u1 u2 u3 u4 u5 u6 v1 v2 v3 v4 v5 v6 v7
  obtain ⟨nm', qn, N, bs, bm, hdct, sn, sub, ab, col, dd, w0, w1, w2, w3, w5, e0, e1, e2, e3, e4⟩ := hE
  have hC := D₆.S.K O _ _ e0
  have he : s₅.heap.get? x = some oe := D₅.S.sim x (.raw oe) (by rw [upd_ne _ _ (Ne.symm u2), upd_self])
  have hcl : oe.cls = .ref c := by rw [u0, ← hcc]
  obtain ⟨hh, gs, dr, tt, os⟩ := s₅
  refine wpAny_excMatches_sub_self hC he hcl e4 ?_
  rw [if_pos rfl]
  have k5 : TK s.heap hh := ((k₁.trans k₂).trans k₃).trans k₅
  refine codeAny_handlers_suite_as (flight_rx D₆ rx₆ fun h₇ D₇ k₇ rx₇ => ?_)
  obtain ⟨x', T', vs', oe', oT', ts', ex, u0', u1', u2', u3', u4', u5', u6', D₈, _⟩ := rx₇.tell D₇
  cases ex
  have heo : h₇.get? x = some oe' := D₈.S.sim x (.raw oe') (by rw [upd_ne _ _ (Ne.symm u2'), upd_self])
  have D₉ : Hd C g env ε₁ (upd σ₁ x (.exc c (some ax.d) false)) ⟨h₇, gs, dr, tt, os⟩ := D₇.add v3 v4 v6 ⟨vs', oe'.slots, by rw [heo, u0', ← hcc], u1', nofun⟩
  obtain ⟨m, hm, he'⟩ := D₉.F.ns
  refine wpAny_storeName_local hl hm (fun h' hn hs => ?_) (by rw [hk]; rfl)
  obtain ⟨D₁₀, k₁₀⟩ := D₉.store (x := nm) (y := .obj x) (v := .ref x) (tt + 1) hm hn hs rfl he'
  have k10 := (k5.trans k₇).trans k₁₀
  refine (hb ε₁ ax σ₁ x q v1).use am D₁₀ (fun f y ε₈ σ₈ s₈ D₈ k₈ rf q => ?_) fun _ _ z => z.none_.elim
  obtain ⟨⟨y', rfl⟩, q⟩ := q
  obtain ⟨v, rfl, rv⟩ := rf
  obtain ⟨m', hm', _⟩ := D₈.F.ns
  dsimp only
  refine wpAny_nameGoes hl hm' hp fun h'' m'' hn'' hs'' => ?_
  obtain ⟨Df, kf⟩ := D₈.lost (s₈.toks + 1) hn'' hs''
  exact ⟨.ret y', [], σ₈, Df, (k10.trans k₈).trans kf, ⟨v, rfl, RV.mono kf _ _ rv⟩, q⟩
end
end Mine
end
section
open PySem PySem.W PyProof.Rows PySem.Calls PySem.Spec
set_option Elab.async false
set_option maxRecDepth 100000
set_option linter.unusedVariables false
set_option linter.unusedSectionVars false
namespace Mine
def TAL (C : Cx) (n : Nat) (env : Env) (QA : Loc → Store → Prop) (X : AX → Store → Prop) : List (Value → Sem Unit) → List V → Loc → Store → Prop
  | t :: ts, x :: xs, ε, σ => TA C n env ε t x σ (fun ε₁ σ₁ => TAL C n env QA X ts xs ε₁ σ₁) X
  | _, _, ε, σ => QA ε σ
section
variable {C : Cx} {g : Gh} {σ σ' : Store} {s s' : Shared} {env : Env} {ε : Loc} {n : Nat} {A : Around} {Q : V → Store → Prop} {X X₀ : AX → Store → Prop} {QB : Bool → Store → Prop} {QS : Fl → Loc → Store → Prop} {QA : Loc → Store → Prop}
theorem run_TAL (a : AOk C n g (some env) A) : ∀ {ts : List (Value → Sem Unit)} {xs : List V} {ε : Loc} {σ : Store} {s : Shared} {vs : List Value}, TAL C n env QA X ts xs ε σ → Hd C g env ε σ s → RVs s.heap xs vs →
    wpAny C.M A (assignInOrder ts vs) (fun _ s' => PostA C g env s QA s') (PostX C g env s X) s
  | [], xs, ε, σ, s, vs, h, D, r => by
    cases xs <;> exact assignInOrder_nil ⟨ε, σ, D, TK.refl _, h⟩
  | t :: ts, [], ε, σ, s, vs, h, D, r => by
    rw [show vs = [] from r]
    exact wpAny_pure ⟨ε, σ, D, TK.refl _, h⟩
  | t :: ts, x :: xs, ε, σ, s, vs, h, D, r => by
    obtain ⟨v, vs, rfl, r1, r2⟩ := r
    refine assignInOrder_cons (wpAny_mono (h A g s v a D r1) (fun _ s₁ ⟨ε₁, σ₁, D₁, k₁, h₁⟩ => ?_) fun _ _ z => z)
    exact wpAny_mono (run_TAL a h₁ D₁ (RVs.mono k₁ _ _ r2)) (fun _ s₂ ⟨ε₂, σ₂, D₂, k₂, q⟩ => ⟨ε₂, σ₂, D₂, k₁.trans k₂, q⟩) fun _ _ z => z.trans k₁
theorem Hd.ext_new (D : Hd C g env ε σ s) {h' : Heap} (k : Heap.ExtBut s.heap.objs.size s.heap h') : Hd C g env ε σ { s with heap := h' } ∧ TK s.heap h' := by
  have kk : ∀ b o, s.heap.get? b = some o → h'.get? b = some o := fun b o e => k b o (Nat.ne_of_lt (Heap.lt_size e)) e
  exact ⟨⟨D.S.grow s.toks kk, D.F.keeps (h' := h') (fun o e => kk _ _ e) (TK.of_keeps kk) rfl D.F.σL⟩, TK.of_keeps kk⟩
theorem TA_Tuple {elts : List Expr} {k} {pos : Pos} {xs : List V} (hn : (assignEach elts env).length = xs.length) (hstar : (assignEach elts env).findIdx? (·.1) = none)
    (h : TAL C (n + 1) env QA X ((assignEach elts env).map (·.2)) xs ε σ) : TA C (n + 1) env ε (assign (.Tuple elts k pos) env) (.tup xs) σ QA X := fun A g s v a D r => by
  obtain ⟨t, vs, rfl, ht, rv⟩ := r
  refine assign_Tuple_tuple a.hn ht (by rw [hn, List.size_toArray, rv.length]) hstar fun h' he => ?_
  obtain ⟨D', k⟩ := D.ext_new he
  exact wpAny_mono (run_TAL a h D' (RVs.mono k _ _ rv)) (fun _ s₂ ⟨ε₂, σ₂, D₂, k₂, q⟩ => ⟨ε₂, σ₂, D₂, k.trans k₂, q⟩) fun _ _ z => z.trans k
theorem TS_AssignTuple {elts : List Expr} {k} {tpos pos : Pos} {value : Expr} (h : EV C n env ε value σ (fun y σ₁ => TA C n env ε (assign (.Tuple elts k tpos) env) y σ₁ (fun ε₂ σ₂ => QS .next ε₂ σ₂) X) X)
    (hs : swapsWithSole [.Tuple elts k tpos] value pos.line env = pure false := by rfl)
    (hw : swappedStores [.Tuple elts k tpos] value env = pure none := by rfl) : TS C n env ε (exec (.Assign [.Tuple elts k tpos] value pos) env) σ QS X := fun A g s a D =>
  Assign_Tuple (h.use a D (fun v x σ₁ s₁ D₁ k₁ r₁ h₁ => wpAny_mono (h₁ A g s₁ v a D₁ r₁) (fun _ s₂ ⟨ε₂, σ₂, D₂, k₂, q⟩ => ⟨.next, ε₂, σ₂, D₂, k₁.trans k₂, rfl, q⟩) fun _ _ z => z.trans k₁) fun _ _ z => z) hs hw
theorem TA_bind {x : Str} {y : V} (h : SN C n env ε x y σ (Qta QA) X) : TA C n env ε (bindName env x) y σ QA X := fun A g s v a D r =>
  bindName_ (TA_store h A g s v a D r)
theorem RVs.reverse {h : Heap} : ∀ {xs : List V} {vs : List Value}, RVs h xs vs → RVs h xs.reverse vs.reverse
  | [], _, r => by rw [show _ = [] from r]; rfl
  | x :: xs, _, r => by
    obtain ⟨v, vs, rfl, r1, r2⟩ := r
    rw [List.reverse_cons, List.reverse_cons]
    exact r2.reverse.append (RVs.one r1)
abbrev Qnx (QS : Fl → Loc → Store → Prop) : Loc → Store → Prop := fun ε₂ σ₂ => QS .next ε₂ σ₂
abbrev Qsw (C : Cx) (n : Nat) (env : Env) (ε : Loc) (names : List Str) (QS : Fl → Loc → Store → Prop) (X : AX → Store → Prop) : V → Store → Prop := fun y σ₁ => ∃ xs, y = .tup xs ∧ xs.length = names.length ∧ TAL C (n + 1) env (Qnx QS) X (names.reverse.map fun n => bindName env n) xs.reverse ε σ₁
theorem TS_AssignSwap {elts : List Expr} {k} {tpos pos : Pos} {value : Expr} {names : List Str} (h : EV C (n + 1) env ε value σ (Qsw C n env ε names QS X) X)
    (hs : swapsWithSole [.Tuple elts k tpos] value pos.line env = pure false := by rfl)
    (hw : swappedStores [.Tuple elts k tpos] value env = pure (some names) := by rfl) : TS C (n + 1) env ε (exec (.Assign [.Tuple elts k tpos] value pos) env) σ QS X := fun A g s a D =>
  Assign_Tuple_swapped (h.use a D (fun v x σ₁ s₁ D₁ k₁ r₁ ⟨xs, e, hl, h₁⟩ => by
    subst e
    obtain ⟨t, vs, rfl, ht, rv⟩ := r₁
    have hn : names.length = vs.toArray.size := by rw [List.size_toArray, rv.length, hl]
    rw [hn]
    refine unpackItems_tuple a.hn ht fun h' he => ?_
    obtain ⟨D', k⟩ := D₁.ext_new he
    exact wpAny_mono (run_TAL a h₁ D' (RVs.mono k _ _ rv).reverse) (fun _ s₂ ⟨ε₂, σ₂, D₂, k₂, q⟩ => ⟨.next, ε₂, σ₂, D₂, (k₁.trans k).trans k₂, rfl, q⟩) fun _ _ z => z.trans (k₁.trans k)) fun _ _ z => z) hs hw
end
end Mine
end
section
open PySem PySem.W PyProof.Rows PySem.Calls PySem.Spec
open PySem.Builtin
set_option Elab.async false
set_option maxRecDepth 100000
set_option linter.unusedVariables false
set_option linter.unusedSectionVars false
namespace Mine
section
variable {C : Cx} {g : Gh} {σ σ' : Store} {s s' : Shared} {env : Env} {ε : Loc} {n : Nat} {A : Around} {Q : V → Store → Prop} {X X₀ : AX → Store → Prop} {QB : Bool → Store → Prop} {QS : Fl → Loc → Store → Prop} {QA : Loc → Store → Prop}
theorem TS_While {test : Expr} {body : List Stmt} {pos : Pos} (I : Nat → Loc → Store → Prop) (hf : env.frame = some env.locals)
    (h : ∀ k ε σ, I k ε σ → TT C n env ε (isTrue test env (eval test env)) σ (fun b σ₁ => if b then TS C n env ε (execs body env) σ₁ (fun fl ε₂ σ₂ => match fl with
      | .next => ∃ m, m < k ∧ I m ε₂ σ₂
      | .cont => ∃ m, m < k ∧ I m ε₂ σ₂
      | .brk => QS .next ε₂ σ₂
      | .ret v => QS (.ret v) ε₂ σ₂) X else QS .next ε σ₁) X) (k : Nat) (h0 : I k ε σ) :
    TS C n env ε (exec (.While test body [] pos) env) σ QS X := fun A g s a D => by
  have fin : ∀ e s', PostX C g env s X e s' → notedBy C.M A env (fun e s' => cameBackBy C.M A env (PostX C g env s X) e s') e s' := fun e s' z =>
    noted_rx a hf z fun s'' z' ⟨ax, σ', ε', D', k', rx, q⟩ => cameBack_rx D' k' rx q fun _ z => z
  refine wpAny_While (codeAny_whileLoop (fun k s₁ => ∃ ε₁ σ₁, Hd C g env ε₁ σ₁ s₁ ∧ TK s.heap s₁.heap ∧ I k ε₁ σ₁) ?_ k ⟨ε, σ, D, TK.refl _, h0⟩)
  rintro k s₁ ⟨ε₁, σ₁, D₁, k₁, hi⟩
  refine wpAny_mono (h k ε₁ σ₁ hi A g s₁ a D₁) (fun b s₂ ⟨σ₂, D₂, k₂, q⟩ => ?_) fun e s' z => fin e s' (z.trans k₁)
  cases b with
  | false => exact wpAny_execs_nil ⟨.next, ε₁, σ₂, D₂, k₁.trans k₂, rfl, q⟩
  | true =>
    refine wpAny_mono (q A g s₂ a D₂) (fun f s₃ ⟨fl, ε₃, σ₃, D₃, k₃, rf, q₃⟩ => ?_) fun e s' z => fin e s' (z.trans (k₁.trans k₂))
    have kk := (k₁.trans k₂).trans k₃
    cases fl with
    | next => rw [show f = _ from rf]; obtain ⟨m, hm, hi'⟩ := q₃; exact ⟨m, hm, ε₃, σ₃, D₃, kk, hi'⟩
    | cont => rw [show f = _ from rf]; obtain ⟨m, hm, hi'⟩ := q₃; exact ⟨m, hm, ε₃, σ₃, D₃, kk, hi'⟩
    | brk => rw [show f = _ from rf]; exact ⟨.next, ε₃, σ₃, D₃, kk, rfl, q₃⟩
    | ret y => obtain ⟨v, rfl, rv⟩ := rf; exact ⟨.ret y, ε₃, σ₃, D₃, kk, ⟨v, rfl, rv⟩, q₃⟩
theorem test_last' {M : Model} {A : Around} {E : Value → Shared → Prop} {s : Shared} {pos : Pos} {a : Value} {op : CmpOp} {r : Sem Value} {Q : Bool → Shared → Prop}
    (h : wpAny M A r (fun b s₁ => wpAny M A (compareOp op a b) (fun c s₂ => wpAny M A (truthy c) Q E s₂) E s₁) E s) : wpAny M A (testChain pos a [op] [r]) Q E s := by
  first
    | exact test_last h
    | exact PyProof.Rows.test_last h
theorem TT_Chain {l r₁ r₂ : Expr} {op₁ op₂ : CmpOp} {pos : Pos} {w : Sem Value} (h : EV C n env ε l σ (fun x σ₁ => EV C n env ε r₁ σ₁ (fun y σ₂ => OP2 C n env ε (compareOp op₁) x y σ₂ (fun z σ₃ => ∃ b, z = .bool b ∧
      if b then EV C n env ε r₂ σ₃ (fun z σ₄ => OP2 C n env ε (compareOp op₂) y z σ₄ (fun z σ₅ => ∃ b, z = .bool b ∧ QB b σ₅) X) X else QB false σ₃) X) X) X)
    (hm : lastMarks [op₁, op₂] [r₁, r₂] = false := by with_unfolding_all rfl) : TT C n env ε (isTrue (.Compare l [op₁, op₂] [r₁, r₂] pos) env w) σ QB X := fun A g s a D => by
  refine isTrue_chain (h.use a D (fun v x σ₁ s₁ D₁ k₁ r₁ h₁ => test_link (h₁.use a D₁ (fun w y σ₂ s₂ D₂ k₂ r₂ h₂ => ?_) fun _ _ z => z.trans k₁)) fun _ _ z => z) hm
  refine wpAny_mono (h₂ A g s₂ v w a D₂ (RV.mono k₂ _ _ r₁) r₂) (fun c s₃ ⟨z, σ₃, D₃, k₃, r₃, b, e, q⟩ => ?_) fun _ _ z => z.trans (k₁.trans k₂)
  subst e
  rw [show c = _ from r₃]
  refine wpAny_truthy_bool ?_
  have kk := (k₁.trans k₂).trans k₃
  cases b with
  | false => exact ⟨σ₃, D₃, kk, q⟩
  | true =>
    refine test_last' ((show EV C n env ε _ σ₃ _ X from q).use a D₃ (fun u z σ₄ s₄ D₄ k₄ r₄ h₄ => ?_) fun _ _ z => z.trans kk)
    refine wpAny_mono (h₄ A g s₄ w u a D₄ (RV.mono (k₃.trans k₄) _ _ r₂) r₄) (fun c s₅ ⟨z, σ₅, D₅, k₅, r₅, b, e, q⟩ => ?_) fun _ _ z => z.trans (kk.trans k₄)
    subst e
    rw [show c = _ from r₅]
    exact wpAny_truthy_bool ⟨σ₅, D₅, (kk.trans k₄).trans k₅, q⟩
theorem sub_bytes {value slice : Expr} {b : Array UInt8} {i : Int} (hfit : b.size ≤ 1000000) (h0 : 0 ≤ i) (h1 : i < (b.size : Int)) (h : Q (.int (b.toList.getD i.toNat 0).toNat) σ)
    (hs : ∀ o i, subscripted slice false o i = operate [o, i] (getItem o i) := by intro _ _; with_unfolding_all rfl) (ht : ∀ o r, letTemporaryGo value o r = pure () := by intro _ _; with_unfolding_all rfl) :
    OP2 C n env ε (subscriptTail value slice) (.bytes b) (.int i) σ Q X := fun A g s v w a D r r' => by
  obtain ⟨t, rfl⟩ := r
  obtain ⟨u, rfl⟩ := r'
  have e : b.toList.toArray = b := by simp
  have hl : b.toList.length = b.size := by simp
  have z := KBy.item_N (prog := C.prog) (w := C.w) (A := A) (E := PostX C g env s X) (s := s) (value := value) (slice := slice) (x := b.toList) (i := i) (ui := u) (t := t) (Q := Post C g env ε s Q) (by omega) h0 (by omega)
    (ppt D _ rv_int h) (hs _ _) (ht _)
  rw [e] at z
  exact z
theorem loop_find {β : Type} {M : Model} {A : Around} {E : Value → Shared → Prop} {s : Shared} (f : Nat → (Option β × Unit) → Sem (ForInStep (Option β × Unit))) {Q : Option β × Unit → Shared → Prop} {j : Nat}
    (h1 : ∀ i, i < j → wpAny M A (f i (none, ())) (fun r s' => r = .yield (none, ()) ∧ s' = s) (fun _ _ => False) s) (h2 : wpAny M A (f j (none, ())) (fun r s' => ∃ v, r = .done v ∧ Q v s') E s) :
    ∀ m i, i ≤ j → j < i + m → wpAny M A (forIn (List.range' i m) (none, ()) f) Q E s
  | 0, i, h3, h4 => by omega
  | m + 1, i, h3, h4 => by
    rw [List.range'_succ, List.forIn_cons]
    by_cases hi : i = j
    · subst hi
      refine wpAny_bind (wpAny_mono h2 (fun r s' ⟨v, e, q⟩ => ?_) fun _ _ z => z)
      subst e
      exact wpAny_pure q
    · refine wpAny_bind (wpAny_mono (h1 i (by omega)) (fun r s' ⟨e, e'⟩ => ?_) fun _ _ z => z.elim)
      subst e e'
      exact loop_find f h1 h2 m (i + 1) (by omega) (by omega)
theorem index_K (O : C.Ok) {a : Addr} {xs : Array Value} {k : Nat} {sl : Array (Option Value)} {x : Str} {ys : List Str} {j : Nat} (hK : C.K.lookup a = some ⟨.type "tuple", none, .seq xs k, sl⟩)
    (hx : ∃ ts : List Tok, xs.toList = List.zipWith Value.str ys ts ∧ ts.length = ys.length) (hj : ys[j]? = some x) (hn : ∀ i, i < j → ys[i]? ≠ some x) (h : Q (.int j) σ) :
    OPL C n env ε (fun vs => call (.builtin "tuple.index") vs) [.raw (.ref a), .str x] σ Q X := fun A g s vs hA D r => by
  obtain ⟨v, r', rfl, rfl, w, r'', rfl, ⟨t, rfl⟩, q⟩ := r
  rw [show r'' = [] from q]
  have ho := D.S.K O _ _ hK
  have hT : s.TypeIs (.ref a) "tuple" := ⟨_, ho, rfl⟩
  refine wpAny_call_entry PySem.F.slot_tuple_index hT PySem.F.entry_tuple_index ?_ (PySem.F.args_tuple_index_2 _ _)
  unfold Builtin.«tuple.index»
  refine wpAny_bind (wpAny_pure ?_)
  (try dsimp only)
  refine wpAny_bind ?_
  unfold Builtin.Tuple.tupleItemsOf
  refine wpAny_bind (wpAny_seqItems ho rfl (wpAny_pure ?_))
  (try dsimp only)
  refine wpAny_bind (wpAny_pure (wpAny_bind (wpAny_pure (wpAny_bind ?_))))
  obtain ⟨ts, hts, htl⟩ := hx
  have hsz : xs.size = ys.length := by
    rw [← Array.length_toList, hts, List.length_zipWith, htl, Nat.min_self]
  have hjl : j < ys.length := (List.getElem?_eq_some_iff.mp hj).1
  have hat : ∀ i y, ys[i]? = some y → ∃ t, xs[i]? = some (Value.str y t) := fun i y e => by
    have hi : i < ys.length := (List.getElem?_eq_some_iff.mp e).1
    have hi' : i < ts.length := by omega
    refine ⟨ts[i], ?_⟩
    rw [← Array.getElem?_toList, hts, List.getElem?_zipWith, e, List.getElem?_eq_getElem hi']
  simp only [Std.Legacy.Range.forIn_eq_forIn_range', Std.Legacy.Range.size]
  refine loop_find _ (j := j) (fun i hi => ?_) ?_ _ 0 (Nat.zero_le _) (by simp; omega)
  · have hil : i < ys.length := by omega
    obtain ⟨u, e⟩ := hat i ys[i] (List.getElem?_eq_getElem hil)
    rw [e]
    dsimp only
    refine wpAny_bind (wpAny_eqBool_str ?_)
    have : ¬ ys[i] = x := fun q => hn i hi (by rw [List.getElem?_eq_getElem hil, q])
    rw [if_neg (by simpa using this)]
    exact wpAny_pure ⟨rfl, rfl⟩
  · obtain ⟨u, e⟩ := hat j x hj
    rw [e]
    dsimp only
    refine wpAny_bind (wpAny_eqBool_str ?_)
    rw [if_pos (by simp)]
    refine wpAny_bind ?_
    unfold retInt
    refine wpAny_bind (wpAny_mkInt (wpAny_pure (wpAny_pure ⟨_, rfl, ?_⟩)))
    exact wpAny_pure ⟨_, rfl, ppt D _ rv_int h⟩
end
end Mine
end
section
open PySem PySem.W PyProof.Rows PySem.Calls PySem.Spec
set_option Elab.async false
set_option maxRecDepth 100000
set_option linter.unusedVariables false
set_option linter.unusedSectionVars false
namespace Mine
theorem upto_map (a c : Int) : ∀ k : Nat, upto a c k = (List.range k).map fun i => .int (a + i * c) := by
  intro k
  induction k generalizing a with
  | zero => rfl
  | succ k ih =>
    rw [upto, ih, List.range_succ_eq_map, List.map_cons, List.map_map]
    congr 1
    · simp
    · apply List.map_congr_left
      intro i _
      simp only [Function.comp_apply, V.int.injEq]
      push_cast
      rw [Int.add_mul]; omega
section
variable {C : Cx} {g : Gh} {σ σ' : Store} {s s' : Shared} {env : Env} {ε : Loc} {n : Nat} {A : Around} {Q : V → Store → Prop} {X X' : AX → Store → Prop} {QB : Bool → Store → Prop} {QS : Fl → Loc → Store → Prop} {QA QA' : Loc → Store → Prop}
theorem TA.mono {t : Value → Sem Unit} {x : V} (h : TA C n env ε t x σ QA X) (hQ : ∀ ε σ, QA ε σ → QA' ε σ) (hX : ∀ x σ, X x σ → X' x σ) : TA C n env ε t x σ QA' X' := fun A g s v a D r =>
  wpAny_mono (h A g s v a D r) (fun _ _ ⟨ε', σ', D', k, q⟩ => ⟨ε', σ', D', k, hQ _ _ q⟩) fun _ _ ⟨x, σ', ε', b, p, q, r, z⟩ => ⟨x, σ', ε', b, p, q, r, hX _ _ z⟩
theorem CmpW_each {α : Type} {target elt : Expr} {ifs : List Expr} {Inv : Store → Prop} {QL : List V → Store → Prop} (J : Store → Prop) (f : α → V) (gg : α → V) (hJ : ∀ σ, J σ → Inv σ) :
    ∀ (items : List α) (acc : List V) (ε : Loc) (σ : Store), J σ → (∀ x ∈ items, ∀ ε σ, J σ → TA C n env ε (assign target env) (f x) σ (fun ε₁ σ₁ => TT C n env ε₁ (tests ifs env) σ₁ (fun b σ₂ => b = true ∧ EV C n env ε₁ elt σ₂ (fun y σ₃ => y = gg x ∧ J σ₃) XF) XF) XF) →
    (∀ σ, J σ → QL (acc ++ items.map gg) σ) → CmpW C n env target elt ifs Inv QL acc (items.map f) ε σ
  | [], acc, ε, σ, j, _, q => by simpa [CmpW] using q σ j
  | x :: r, acc, ε, σ, j, h, q => by
    refine TA.mono (h x (.head _) ε σ j) (fun ε₁ σ₁ h₁ => h₁.mono (fun b σ₂ ⟨hb, h₂⟩ => ?_) fun _ _ z => z) fun _ _ z => z
    subst hb
    refine (TV.mono h₂ (fun y σ₃ ⟨e, j'⟩ => ?_) fun _ _ z => z)
    subst e
    exact ⟨hJ _ j', CmpW_each J f gg hJ r (acc ++ [gg x]) ε₁ σ₃ j' (fun y hy => h y (.tail _ hy)) fun σ j => by simpa using q σ j⟩
theorem CmpW_filter {α : Type} {target elt : Expr} {ifs : List Expr} {Inv : Store → Prop} {QL : List V → Store → Prop} (J : Store → Prop) (f : α → V) (gg : α → V) (p : α → Bool) (hJ : ∀ σ, J σ → Inv σ) :
    ∀ (items : List α) (acc : List V) (ε : Loc) (σ : Store), J σ → (∀ x ∈ items, ∀ ε σ, J σ → TA C n env ε (assign target env) (f x) σ (fun ε₁ σ₁ => TT C n env ε₁ (tests ifs env) σ₁ (fun b σ₂ => b = p x ∧ if b then EV C n env ε₁ elt σ₂ (fun y σ₃ => y = gg x ∧ J σ₃) XF else J σ₂) XF) XF) →
    (∀ σ, J σ → QL (acc ++ (items.filter p).map gg) σ) → CmpW C n env target elt ifs Inv QL acc (items.map f) ε σ
  | [], acc, ε, σ, j, _, q => by simpa [CmpW] using q σ j
  | x :: r, acc, ε, σ, j, h, q => by
    refine TA.mono (h x (.head _) ε σ j) (fun ε₁ σ₁ h₁ => h₁.mono (fun b σ₂ ⟨hb, h₂⟩ => ?_) fun _ _ z => z) fun _ _ z => z
    cases b with
    | true =>
      rw [if_pos rfl] at h₂ ⊢
      refine (TV.mono h₂ (fun y σ₃ ⟨e, j'⟩ => ?_) fun _ _ z => z)
      subst e
      exact ⟨hJ _ j', CmpW_filter J f gg p hJ r (acc ++ [gg x]) ε₁ σ₃ j' (fun y hy => h y (.tail _ hy)) fun σ j => by simpa [List.filter_cons, ← hb] using q σ j⟩
    | false =>
      rw [if_neg (by simp)] at h₂ ⊢
      exact ⟨hJ _ h₂, CmpW_filter J f gg p hJ r acc ε₁ σ₂ h₂ (fun y hy => h y (.tail _ hy)) fun σ j => by simpa [List.filter_cons, ← hb] using q σ j⟩
theorem ForW_from {α : Type} {target : Expr} {body : List Stmt} {Inv : Store → Prop} (J : Nat → Loc → Store → Prop) (f : α → V) (all : List α)
    (h : ∀ i x, all[i]? = some x → ∀ ε σ, J i ε σ → TA C n env ε (assign target env) (f x) σ (fun ε₁ σ₁ => TS C n env ε₁ (execs body env) σ₁ (fun fl ε₂ σ₂ => match fl with
      | .next => Inv σ₂ ∧ J (i + 1) ε₂ σ₂
      | .cont => Inv σ₂ ∧ J (i + 1) ε₂ σ₂
      | .brk => QS .next ε₂ σ₂
      | .ret v => QS (.ret v) ε₂ σ₂) X) X) (hend : ∀ ε σ, J all.length ε σ → QS .next ε σ) :
    ∀ (r : List α) (i : Nat) (ε : Loc) (σ : Store), r = all.drop i → i ≤ all.length → J i ε σ → ForW C n env target body Inv QS X (r.map f) ε σ
  | [], i, ε, σ, e, hi, j => by
    have : i = all.length := by
      have := congrArg List.length e
      simp at this; omega
    subst this
    exact hend ε σ j
  | x :: r, i, ε, σ, e, hi, j => by
    have hx : all[i]? = some x := by
      have : (all.drop i)[0]? = some x := by rw [← e]; rfl
      simpa using this
    have hl : i < all.length := (List.getElem?_eq_some_iff.mp hx).1
    have hr : r = all.drop (i + 1) := by rw [← List.tail_drop, ← e]; rfl
    refine TA.mono (h i x hx ε σ j) (fun ε₁ σ₁ h₁ => h₁.mono (fun fl ε₂ σ₂ z => ?_) fun _ _ z => z) fun _ _ z => z
    cases fl with
    | next => exact ⟨z.1, ForW_from J f all h hend r (i + 1) ε₂ σ₂ hr hl z.2⟩
    | cont => exact ⟨z.1, ForW_from J f all h hend r (i + 1) ε₂ σ₂ hr hl z.2⟩
    | brk => exact z
    | ret v => exact z
theorem ForW_each {α : Type} {target : Expr} {body : List Stmt} {Inv : Store → Prop} (J : Nat → Loc → Store → Prop) (f : α → V) (all : List α)
    (h : ∀ i x, all[i]? = some x → ∀ ε σ, J i ε σ → TA C n env ε (assign target env) (f x) σ (fun ε₁ σ₁ => TS C n env ε₁ (execs body env) σ₁ (fun fl ε₂ σ₂ => match fl with
      | .next => Inv σ₂ ∧ J (i + 1) ε₂ σ₂
      | .cont => Inv σ₂ ∧ J (i + 1) ε₂ σ₂
      | .brk => QS .next ε₂ σ₂
      | .ret v => QS (.ret v) ε₂ σ₂) X) X) (hend : ∀ ε σ, J all.length ε σ → QS .next ε σ) (h0 : J 0 ε σ) : ForW C n env target body Inv QS X (all.map f) ε σ :=
  ForW_from J f all h hend all 0 ε σ (by simp) (Nat.zero_le _) h0
theorem notin_dictS {a : Addr} {es : List (Str × V)} {ep : Nat} {k : Str} (hl : σ a = some (.dictS es ep)) (h : Q (.bool (!(valueA es k).isSome)) σ) : OP2 C n env ε (compareOp .NotIn) (.str k) (.obj a) σ Q X := fun A g s v w hA D r r' => by
  rw [show w = _ from r']
  obtain ⟨u, rfl⟩ := r
  obtain ⟨hsys, kvs, hd, hp⟩ := D.S.sim a _ hl
  have e : (valueAt kvs k).isSome = (valueA es k).isSome := by
    have z := hp.valueAt (k := k)
    cases q : valueA es k with
    | none => rw [q] at z; rw [z]; rfl
    | some x => rw [q] at z; obtain ⟨v, e1, _⟩ := z; rw [e1]; rfl
  exact wpAny_notIn_of (knd := PySem.strKind C.prog C.w) (k := k) (by simp [PySem.strKind, Value.isStrOf]) hsys hd.dictOf.mapOf (ppt D _ (show RV s.heap (.bool (!(valueA es k).isSome)) _ by rw [e]; rfl) h)
theorem EV_Neg {i : Int} {k} {p pos : Pos} (h : Q (.int (-i)) σ) : EV C n env ε (.UnaryOp .USub (.Constant (.int i) k p) pos) σ Q X := fun A g s a D =>
  wpAny_UnaryOp (wpAny_Constant_int (PyProof.Rows.neg_int (ppt D _ rv_int h)))
end
end Mine
end
section
open PySem PySem.W PyProof.Rows PySem.Calls PySem.Spec
set_option Elab.async false
set_option maxRecDepth 100000
set_option linter.unusedVariables false
set_option linter.unusedSectionVars false
namespace Mine
section
variable {prog : Program} {w : World} {A : Around} {E : Value → Shared → Prop} {s : Shared} {b : Array UInt8} {t : Tok}
theorem enb_nextOf_item {it : Addr} {i : Nat} {c : UInt8} {Q : Value → Shared → Prop} (hit : KBw.IsBytesIter s.heap it b t i) (hx : b[i]? = some c)
    (hQ : ∀ h', KBw.IsBytesIter h' it b t (i + 1) → Heap.SameBut it s.heap h' → Q (.int (c.toNat : Int) s.toks) { s with heap := h', toks := s.toks + 1 }) :
    wpAny (model prog w) A (Builtin.SmallTypes.nextOf (.ref it)) Q E s := by
  obtain ⟨o, ho, hc, hd⟩ := id hit
  unfold Builtin.SmallTypes.nextOf
  refine wpAny_bind (wpAny_callSpecial?_slot (name := PySem.Str.ofString "__next__") (KBw.iter_typeIs hit) KBw.slot_next
    (wpAny_call_entry KBw.slot_next (KBw.iter_typeIs hit) KBw.entry_next ?_ (KBw.args_next _)))
  show wpAny _ _ (field (.ref it) 0 >>= _) _ _ s
  refine wpAny_bind (wpAny_field ho hd (x := .bytes b t) rfl ?_)
  show wpAny _ _ (if (Value.bytes b t == Value.none) = true then _ else _) _ _ s
  rw [if_neg (show ¬ ((Value.bytes b t == Value.none) = true) from Bool.false_ne_true)]
  show wpAny _ _ (field (.ref it) 1 >>= _) _ _ s
  refine wpAny_bind (wpAny_field ho hd (x := .int i 0) rfl ?_)
  refine wpAny_bind (wpAny_of_eq (a := b) rfl ?_)
  simp only [Int.toNat_natCast, hx]
  refine wpAny_bind (wpAny_setField ho hd (by simp) (wpAny_bind (wpAny_mkInt (wpAny_pure ⟨_, rfl, wpAny_pure (hQ _ ?_ (Heap.SameBut.update ..))⟩))))
  exact ⟨_, Heap.get?_update_self _ ho (Obj.isFreed_of_fields (Obj.data_mapFields hd _)), (Obj.cls_mapFields ..).trans hc, by
    rw [Obj.data_mapFields hd]; simp [rawInt]⟩
theorem enb_nextOf_end {it : Addr} {i : Nat} {Q : Value → Shared → Prop} (hh : A.handled = none) (hit : KBw.IsBytesIter s.heap it b t i) (hx : b[i]? = none)
    (hE : ∀ h' e, Heap.ExtBut it s.heap h' → (∃ o, h'.get? e = some o ∧ o.cls = .type "StopIteration") → E (.ref e) { s with heap := h' }) :
    wpAny (model prog w) A (Builtin.SmallTypes.nextOf (.ref it)) Q E s := by
  obtain ⟨o, ho, hc, hd⟩ := id hit
  unfold Builtin.SmallTypes.nextOf
  refine wpAny_bind (wpAny_callSpecial?_slot (name := PySem.Str.ofString "__next__") (KBw.iter_typeIs hit) KBw.slot_next
    (wpAny_call_entry KBw.slot_next (KBw.iter_typeIs hit) KBw.entry_next ?_ (KBw.args_next _)))
  show wpAny _ _ (field (.ref it) 0 >>= _) _ _ s
  refine wpAny_bind (wpAny_field ho hd (x := .bytes b t) rfl ?_)
  show wpAny _ _ (if (Value.bytes b t == Value.none) = true then _ else _) _ _ s
  rw [if_neg (show ¬ ((Value.bytes b t == Value.none) = true) from Bool.false_ne_true)]
  show wpAny _ _ (field (.ref it) 1 >>= _) _ _ s
  refine wpAny_bind (wpAny_field ho hd (x := .int i 0) rfl ?_)
  refine wpAny_bind (wpAny_of_eq (a := b) rfl ?_)
  simp only [Int.toNat_natCast, hx]
  refine wpAny_bind (wpAny_rule (wpAny_bind (wpAny_setField ho hd (by simp) ?_)))
  show wpAny _ _ (newExc (.type "StopIteration") [] >>= _) _ _ _
  refine wpAny_bind ?_
  simp only [newExc, newTuple]
  refine wpAny_bind (wpAny_newObj_type ?_ (by size_fits))
  refine wpAny_bind (m := firstArgMember _ _) (wpAny_of_eq (a := Value.none) (by first | rfl | (simp only [firstArgMember]; rfl)) ?_)
  refine wpAny_newObj_type ?_ (by size_fits)
  simp only [raiseNew]
  refine wpAny_bind (wpAny_handled ?_)
  first | rw [show A.in1.handled = none from hh] | rw [hh]
  refine wpAny_bind (wpAny_pure (wpAny_throw ?_))
  exact hE _ _ (((Heap.SameBut.update ..).extBut.push _).push _) ⟨_, Heap.get?_push_size _ rfl, rfl⟩
theorem ext_bi {h h' : Heap} {it e : Addr} {i : Nat} (x : KBw.IsBytesIter h it b t i) (hs : Heap.SameBut e h h') (hne : it ≠ e) : KBw.IsBytesIter h' it b t i := let ⟨o, ho, r⟩ := x; ⟨o, (hs.2 it hne).trans ho, r⟩
theorem enb_next_item {e it : Addr} {i : Nat} {c : UInt8} {old : Value} {Q : Value → Shared → Prop}
    (he : IsEnum s.heap e it i old) (hit : KBw.IsBytesIter s.heap it b t i) (hx : b[i]? = some c) (hne : e ≠ it)
    (hQ : ∀ h', IsEnumOut h' e it ((i : Int) + 1) (.int c.toNat s.toks) s.heap.objs.size → KBw.IsBytesIter h' it b t (i + 1) →
      h'.get? s.heap.objs.size = some { cls := .type "tuple", data := .seq #[.int i (s.toks + 1), .int c.toNat s.toks] } → h'.objs.size = s.heap.objs.size + 1 →
      (∀ b o, b ≠ e → b ≠ it → s.heap.get? b = some o → h'.get? b = some o) → Q (.ref s.heap.objs.size) { s with heap := h', toks := s.toks + 2 }) :
    wpAny (model prog w) A (Builtin.«enumerate.__next__» ⟨[.ref e], []⟩) (fun fin s' => ∃ v, fin = .done (.ret v) ∧ Q v s') E s := by
  obtain ⟨hp, g, d, tk, os⟩ := s
  show wpAny _ _ (field (.ref e) 2 >>= _) _ _ _
  refine wpAny_bind (wpAny_field he rfl (x := .ref it) rfl ?_)
  refine wpAny_bind (enb_nextOf_item hit hx fun h₁ hit₁ hs₁ => ?_)
  replace hs₁ : Heap.SameBut it hp h₁ := hs₁
  have he₁ : IsEnum h₁ e it i old := (hs₁.2 e hne).trans he
  show wpAny _ _ (field (.ref e) 3 >>= _) _ _ ⟨h₁, g, d, tk + 1, os⟩
  refine wpAny_bind (wpAny_field he₁ rfl (x := rawInt i) rfl ?_)
  show wpAny _ _ (field (.ref e) 4 >>= _) _ _ ⟨h₁, g, d, tk + 1, os⟩
  refine wpAny_bind (wpAny_field he₁ rfl (x := .none) rfl ?_)
  show wpAny _ _ (mkInt i >>= _) _ _ ⟨h₁, g, d, tk + 1, os⟩
  refine wpAny_bind (wpAny_mkInt ?_)
  show wpAny _ _ (setField (.ref e) 3 (rawInt ((i : Int) + 1)) >>= _) _ _ ⟨h₁, g, d, tk + 1 + 1, os⟩
  refine wpAny_bind (wpAny_setField_rec he₁ (by simp) fun h₂ he₂ hs₂ => ?_)
  replace hs₂ : Heap.SameBut e h₁ h₂ := hs₂
  replace he₂ : IsEnum h₂ e it ((i : Int) + 1) old := he₂
  show wpAny _ _ (setField (.ref e) 4 .none >>= _) _ _ ⟨h₂, g, d, tk + 1 + 1, os⟩
  refine wpAny_bind (wpAny_setField_rec he₂ (by simp) fun h₃ he₃ hs₃ => ?_)
  replace hs₃ : Heap.SameBut e h₂ h₃ := hs₃
  replace he₃ : IsEnum h₃ e it ((i : Int) + 1) old := he₃
  show wpAny _ _ (newTuple [.int i (tk + 1), .int c.toNat tk] >>= _) _ _ ⟨h₃, g, d, tk + 1 + 1, os⟩
  refine wpAny_bind (wpAny_newTuple ?_)
  have he₄ : IsEnum (h₃.push { cls := .type "tuple", data := .seq #[.int i (tk + 1), .int c.toNat tk] }) e it ((i : Int) + 1) old := Heap.get?_push_of_some _ he₃
  generalize hh₄ : h₃.push { cls := .type "tuple", data := .seq #[.int i (tk + 1), .int c.toNat tk] } = h₄ at he₄
  have hsz : h₃.objs.size = hp.objs.size := by rw [hs₃.1, hs₂.1, hs₁.1]
  have hel : e < hp.objs.size := Heap.lt_size he
  have ht₄ : h₄.get? hp.objs.size = some { cls := .type "tuple", data := .seq #[.int i (tk + 1), .int c.toNat tk] } := by rw [← hh₄, ← hsz]; exact Heap.get?_push_size _ rfl
  have hz₄ : h₄.objs.size = hp.objs.size + 1 := by rw [← hh₄, Heap.size_push, hsz]
  have hk₄ : ∀ b o, b ≠ e → b ≠ it → hp.get? b = some o → h₄.get? b = some o := fun b o hbe hbi hb => by
    rw [← hh₄]; exact Heap.get?_push_of_some _ (hs₃.extBut b o hbe (hs₂.extBut b o hbe (hs₁.extBut b o hbi hb)))
  have hit₄ : KBw.IsBytesIter h₄ it b t (i + 1) := by
    rw [← hh₄]; obtain ⟨o, ho, r⟩ := ext_bi (ext_bi hit₁ hs₂ (Ne.symm hne)) hs₃ (Ne.symm hne); exact ⟨o, Heap.get?_push_of_some _ ho, r⟩
  show wpAny _ _ (Builtin.SmallTypes.ownedTupleIsFree (.ref e) >>= _) _ _ ⟨h₄, g, d, tk + 1 + 1, os⟩
  rw [hsz]
  clear hh₄ he₃ hs₃ he₂ hs₂ he₁ hs₁ hit₁ hsz h₃ h₂ h₁
  refine wpAny_bind ?_
  unfold Builtin.SmallTypes.ownedTupleIsFree
  refine wpAny_bind (wpAny_field he₄ rfl (x := .none) rfl (wpAny_pure ?_))
  simp only [if_true]
  refine wpAny_bind (wpAny_rule ?_)
  refine wpAny_bind (wpAny_field he₄ rfl (x := old) rfl ?_)
  refine wpAny_bind (wpAny_setField_rec he₄ (by simp) fun h₅ he₅ hs₅ => ?_)
  replace hs₅ : Heap.SameBut e h₄ h₅ := hs₅
  replace he₅ : IsEnum h₅ e it ((i : Int) + 1) (.int c.toNat tk) := he₅
  show wpAny _ _ (Builtin.SmallTypes.ownedTupleHandOut (.ref e) (.ref hp.objs.size) >>= _) _ _ ⟨h₅, g, d, tk + 1 + 1, os⟩
  refine wpAny_bind ?_
  unfold Builtin.SmallTypes.ownedTupleHandOut
  refine wpAny_bind (wpAny_setField_rec he₅ (by simp) fun h₆ he₆ hs₆ => ?_)
  replace hs₆ : Heap.SameBut e h₅ h₆ := hs₆
  replace he₆ : IsEnumOut h₆ e it ((i : Int) + 1) (.int c.toNat tk) hp.objs.size := he₆
  refine wpAny_setField_rec he₆ (by simp) fun h₇ he₇ hs₇ => ?_
  replace hs₇ : Heap.SameBut e h₆ h₇ := hs₇
  replace he₇ : IsEnumOut h₇ e it ((i : Int) + 1) (.int c.toNat tk) hp.objs.size := he₇
  refine wpAny_bind (wpAny_letGo (wpAny_pure ⟨_, rfl, hQ h₇ he₇ ?_ ?_ ?_ ?_⟩))
  · exact ext_bi (ext_bi (ext_bi hit₄ hs₅ (Ne.symm hne)) hs₆ (Ne.symm hne)) hs₇ (Ne.symm hne)
  · exact hs₇.extBut _ _ (Nat.ne_of_gt hel) (hs₆.extBut _ _ (Nat.ne_of_gt hel) (hs₅.extBut _ _ (Nat.ne_of_gt hel) ht₄))
  · rw [hs₇.1, hs₆.1, hs₅.1, hz₄]
  · exact fun b o hbe hbi hb => hs₇.extBut b o hbe (hs₆.extBut b o hbe (hs₅.extBut b o hbe (hk₄ b o hbe hbi hb)))
theorem enb_pyNext_item {e it : Addr} {i : Nat} {c : UInt8} {old : Value} {Q : Option Value → Shared → Prop}
    (he : IsEnum s.heap e it i old) (hit : KBw.IsBytesIter s.heap it b t i) (hx : b[i]? = some c) (hne : e ≠ it)
    (hQ : ∀ h', IsEnumOut h' e it ((i : Int) + 1) (.int c.toNat s.toks) s.heap.objs.size → KBw.IsBytesIter h' it b t (i + 1) →
      h'.get? s.heap.objs.size = some { cls := .type "tuple", data := .seq #[.int i (s.toks + 1), .int c.toNat s.toks] } → h'.objs.size = s.heap.objs.size + 1 →
      (∀ b o, b ≠ e → b ≠ it → s.heap.get? b = some o → h'.get? b = some o) → Q (some (.ref s.heap.objs.size)) { s with heap := h', toks := s.toks + 2 }) :
    wpAny (model prog w) A (pyNext (.ref e)) Q E s := by
  have hT : s.TypeIs (.ref e) "enumerate" := ⟨_, he, rfl⟩
  unfold pyNext
  exact wpAny_bind (wpAny_attempt (wpAny_callSpecial?_slot (name := PySem.Str.ofString "__next__") hT PySem.F.slot_enumerate_next
    (wpAny_call_entry PySem.F.slot_enumerate_next hT PySem.F.entry_enumerate_next
      (enb_next_item he hit hx hne fun h' a b c d k => wpAny_pure (hQ h' a b c d k)) (PySem.F.args_enumerate_next_1 _))))
theorem enb_pyNext_end {e it : Addr} {i : Nat} {old : Value} {Q : Option Value → Shared → Prop} (hh : A.handled = none)
    (he : IsEnum s.heap e it i old) (hit : KBw.IsBytesIter s.heap it b t i) (hx : b[i]? = none)
    (hQ : ∀ h', Heap.ExtBut it s.heap h' → Q none { s with heap := h' }) : wpAny (model prog w) A (pyNext (.ref e)) Q E s := by
  have hT : s.TypeIs (.ref e) "enumerate" := ⟨_, he, rfl⟩
  unfold pyNext
  refine wpAny_bind (wpAny_attempt (wpAny_callSpecial?_slot (name := PySem.Str.ofString "__next__") hT PySem.F.slot_enumerate_next
    (wpAny_call_entry PySem.F.slot_enumerate_next hT PySem.F.entry_enumerate_next ?_ (PySem.F.args_enumerate_next_1 _))))
  show wpAny _ _ (field (.ref e) 2 >>= _) _ _ _
  refine wpAny_bind (wpAny_field he rfl (x := .ref it) rfl ?_)
  refine wpAny_bind (enb_nextOf_end hh hit hx fun h' x he' hx' => ?_)
  obtain ⟨o, ho, hc⟩ := hx'
  refine wpAny_bind (wpAny_isInstance (T := "StopIteration") (b := true) ⟨o, ho, hc⟩ isSubtype_stop ?_)
  exact wpAny_pure (hQ _ he')
end
set_option maxHeartbeats 4000000 in
theorem meets_enumerate_newB (x : Array UInt8) (t : Tok) :
    Meets (Builtin.«enumerate.__new__» ⟨[.type "enumerate", .bytes x t], []⟩) (fun _ R s =>
      R (.ok (.ret (.ref (s.heap.push { cls := .type "bytes_iterator", data := .fields #[.bytes x t, .int 0 0] }).objs.size)))
        { s with heap := (s.heap.push { cls := .type "bytes_iterator", data := .fields #[.bytes x t, .int 0 0] }).push { cls := .type "enumerate", data := .fields #[.none, .bool false, .ref s.heap.objs.size, rawInt 0, .none, .none] } }) :=
  .of_wp fun prog w A R s h => by
    obtain ⟨hp, g, d, tk, os⟩ := s
    have hsub := sub_enumerate
    wp_delta
    with_reducible refine PySem.wpAny_bind ?_
    wp_delta
    with_reducible refine PySem.wpAny_bind ?_
    wp_delta
    with_reducible refine PySem.wpAny_pure ?_
    ((with_reducible apply PySem.wpAny_ite_false); focus (rfl; done))
    with_reducible refine PySem.wpAny_bind ?_
    with_reducible refine PySem.wpAny_of_eq (by assumption) ?_
    ((with_reducible apply PySem.wpAny_ite_false); focus (rfl; done))
    with_reducible refine PySem.wpAny_pure ?_
    ((with_reducible apply PySem.wpAny_ite_true); focus (rfl; done))
    with_reducible refine PySem.wpAny_bind ?_
    wp_delta
    with_reducible refine PySem.wpAny_bind ?_
    refine wpAny_stack_any fun st => wpAny_pure ?_
    split
    · rename_i c _ _ _ _ _
      cases (c == Value.type "enumerate")
      · ((with_reducible apply PySem.wpAny_ite_false); focus (rfl; done))
        with_reducible refine PySem.wpAny_bind ?_
        wp_delta
        ((with_reducible apply PySem.wpAny_ite_false); focus (rfl; done))
        wp_delta
        ((with_reducible apply PySem.wpAny_ite_false); focus (rfl; done))
        wp_delta
        with_reducible refine PySem.wpAny_pure ?_
        wp_delta
        with_reducible refine PySem.wpAny_bind ?_
        with_reducible apply KBw.pyIter_bytes
        with_reducible refine PySem.wpAny_bind ?_
        wp_delta
        wp_delta
        ((with_reducible apply PySem.wpAny_ite_false); focus (rfl; done))
        wp_delta
        wp_delta
        with_reducible refine PySem.wpAny_bind ?_
        with_reducible refine PySem.wpAny_alloc' ?_
        with_reducible refine PySem.wpAny_pure ?_
        wp_delta
        with_reducible refine PySem.wpAny_pure ?_
        exact ⟨_, rfl, h⟩
      · ((with_reducible apply PySem.wpAny_ite_true); focus (rfl; done))
        with_reducible refine PySem.wpAny_bind ?_
        wp_delta
        with_reducible refine PySem.wpAny_pure ?_
        with_reducible refine PySem.wpAny_bind ?_
        with_reducible apply KBw.pyIter_bytes
        with_reducible refine PySem.wpAny_bind ?_
        wp_delta
        wp_delta
        ((with_reducible apply PySem.wpAny_ite_false); focus (rfl; done))
        wp_delta
        wp_delta
        with_reducible refine PySem.wpAny_bind ?_
        with_reducible refine PySem.wpAny_alloc' ?_
        with_reducible refine PySem.wpAny_pure ?_
        wp_delta
        with_reducible refine PySem.wpAny_pure ?_
        exact ⟨_, rfl, h⟩
    · ((with_reducible apply PySem.wpAny_ite_false); focus (rfl; done))
      with_reducible refine PySem.wpAny_bind ?_
      wp_delta
      ((with_reducible apply PySem.wpAny_ite_false); focus (rfl; done))
      wp_delta
      ((with_reducible apply PySem.wpAny_ite_false); focus (rfl; done))
      wp_delta
      with_reducible refine PySem.wpAny_pure ?_
      wp_delta
      with_reducible refine PySem.wpAny_bind ?_
      with_reducible apply KBw.pyIter_bytes
      with_reducible refine PySem.wpAny_bind ?_
      wp_delta
      wp_delta
      ((with_reducible apply PySem.wpAny_ite_false); focus (rfl; done))
      wp_delta
      wp_delta
      with_reducible refine PySem.wpAny_bind ?_
      with_reducible refine PySem.wpAny_alloc' ?_
      with_reducible refine PySem.wpAny_pure ?_
      wp_delta
      with_reducible refine PySem.wpAny_pure ?_
      exact ⟨_, rfl, h⟩
theorem call_enumerate_bytes {prog : Program} {w : World} {A : Around} {E : Value → Shared → Prop} {s : Shared} {x : Array UInt8} {t : Tok} {Q : Value → Shared → Prop}
    (h : ∀ h', IsEnum h' (s.heap.objs.size + 1) s.heap.objs.size 0 .none → KBw.IsBytesIter h' s.heap.objs.size x t 0 → h'.objs.size = s.heap.objs.size + 2 →
      (∀ b o, s.heap.get? b = some o → h'.get? b = some o) → Q (.ref (s.heap.objs.size + 1)) { s with heap := h' }) :
    wpAny (model prog w) A (call (.type "enumerate") [.bytes x t]) Q E s := by
  refine callType_new PySem.F.called_enumerate (by decide) (PySem.F.typeCall_enumerate_1 _) (PySem.F.newCall_enumerate_1 _) (fun obj => PySem.F.args_object_init_2 obj _) PySem.F.entry_enumerate_new
    (meets_enumerate_newB x t) ?_
  have hz : (s.heap.push { cls := .type "bytes_iterator", data := .fields #[.bytes x t, .int 0 0] }).objs.size = s.heap.objs.size + 1 := Heap.size_push ..
  show _ ∧ _
  rw [hz]
  have he : IsEnum ((s.heap.push { cls := .type "bytes_iterator", data := .fields #[.bytes x t, .int 0 0] }).push
      { cls := .type "enumerate", data := .fields #[.none, .bool false, .ref s.heap.objs.size, rawInt 0, .none, .none] }) (s.heap.objs.size + 1) s.heap.objs.size 0 .none := by
    have := Heap.get?_push_size (s.heap.push { cls := .type "bytes_iterator", data := .fields #[.bytes x t, .int 0 0] })
      (o := { cls := .type "enumerate", data := .fields #[.none, .bool false, .ref s.heap.objs.size, rawInt 0, .none, .none] }) rfl
    rw [hz] at this; exact this
  refine ⟨⟨_, he, rfl⟩, h _ he ⟨_, Heap.get?_push_of_some _ (Heap.get?_push_size _ rfl), rfl, rfl⟩ (by rw [Heap.size_push, hz]) fun b o y => Heap.get?_push_of_some _ (Heap.get?_push_of_some _ y)⟩
section
variable {C : Cx} {g : Gh} {σ σ' : Store} {s s' : Shared} {env : Env} {ε : Loc} {n : Nat} {A : Around} {Q : V → Store → Prop} {X X' : AX → Store → Prop} {QB : Bool → Store → Prop} {QS : Fl → Loc → Store → Prop} {QA QA' : Loc → Store → Prop}
theorem Hd.ext2 (D : Hd C g env ε σ s) {e it : Addr} {oe oi : Obj} {h' : Heap} (tk : Nat) (eσ : σ e = none) (eg : g e = none) (eH : C.H.get? e = none) (eL : e ≠ env.locals) (iσ : σ it = none) (ig : g it = none) (iH : C.H.get? it = none) (iL : it ≠ env.locals)
    (he : s.heap.get? e = some oe) (te : NT oe) (hi : s.heap.get? it = some oi) (ti : NT oi) (hs : ∀ b o, b ≠ e → b ≠ it → s.heap.get? b = some o → h'.get? b = some o) :
    Hd C g env ε σ { s with heap := h', toks := tk } ∧ TK s.heap h' := by
  have k : TK s.heap h' := fun b x q c ⟨xs, m, d⟩ => hs b x (fun z => by subst z; rw [he] at q; cases q; exact te xs m d c) (fun z => by subst z; rw [hi] at q; cases q; exact ti xs m d c) q
  refine ⟨⟨⟨fun b x q => hs b x (fun z => by rw [z, eH] at q; cases q) (fun z => by rw [z, iH] at q; cases q) (D.S.base b x q), fun b x q => let ⟨o', r, z⟩ := D.S.gs b x q; ⟨o', hs b o' (fun z => by rw [z, eg] at q; cases q) (fun z => by rw [z, ig] at q; cases q) r, z⟩, D.S.gt, fun b x q => ?_, D.S.gσ, D.S.hσ, D.S.gh, D.S.gens, D.S.os⟩,
    D.F.keeps (h' := h') (fun o q => hs _ _ (Ne.symm eL) (Ne.symm iL) q) k rfl D.F.σL⟩, k⟩
  obtain ⟨ob, r⟩ := (D.S.sim b x q).there
  have hb : b ≠ e := fun z => by rw [z, eσ] at q; cases q
  have hb' : b ≠ it := fun z => by rw [z, iσ] at q; cases q
  exact (D.S.sim b x q).mono_of k ((hs b ob hb hb' r).trans r.symm)
abbrev enumV (b : Array UInt8) : List V := (List.range b.size).map fun (i : Nat) => V.tup [.int (i : Int), .int ((b.toList.getD i 0).toNat : Int)]
inductive EnumI (C : Cx) (n : Nat) (g : Gh) (env : Env) (s : Shared) (target : Expr) (body : List Stmt) (e it : Addr) (b : Array UInt8) (t : Tok) (QS : Fl → Loc → Store → Prop) (X : AX → Store → Prop) (k : Nat) (s₁ : Shared) : Prop
  | mk (i : Nat) (old : Value) (ε₁ : Loc) (σ₁ : Store) (e0 : k = b.size - i) (e1 : i ≤ b.size) (e2 : Hd C g env ε₁ σ₁ s₁) (e3 : TK s.heap s₁.heap) (e4 : IsEnum s₁.heap e it ((i : Nat) : Int) old) (e5 : KBw.IsBytesIter s₁.heap it b t i) (e6 : σ₁ e = none) (e7 : σ₁ it = none)
      (e8 : ForW C (n + 1) env target body (fun _ => True) QS X ((enumV b).drop i) ε₁ σ₁)
theorem for_enum {elts : List Expr} {k₀} {tp : Pos} {e it : Addr} {b : Array UInt8} {t : Tok} {body : List Stmt} (hA : AOk C (n + 1) g (some env) A) (hf : env.frame = some env.locals) (D : Hd C g env ε σ s)
    (eσ : σ e = none) (eg : g e = none) (eH : C.H.get? e = none) (eL : e ≠ env.locals) (iσ : σ it = none) (ig : g it = none) (iH : C.H.get? it = none) (iL : it ≠ env.locals) (hne : e ≠ it)
    (he : IsEnum s.heap e it 0 .none) (hit : KBw.IsBytesIter s.heap it b t 0) (h : ForW C (n + 1) env (.Tuple elts k₀ tp) body (fun _ => True) QS X (enumV b) ε σ) :
    codeAny C.M A (.forLoop (.Tuple elts k₀ tp) (.ref e) body [] env) (fun r s' => match r with | .ok f => PostS C g env s QS f s' | .error e => cameBackBy C.M A env (PostX C g env s X) e s') s := by
  have fin : ∀ e s', PostX C g env s X e s' → notedBy C.M A env (fun e s' => cameBackBy C.M A env (PostX C g env s X) e s') e s' := fun e s' z =>
    noted_rx hA hf z fun s'' z' ⟨ax, σ', ε', D', k', rx, q⟩ => cameBack_rx D' k' rx q fun _ z => z
  refine codeAny_forLoop_any (EnumI C n g env s (.Tuple elts k₀ tp) body e it b t QS X) ?_ b.size ⟨0, .none, ε, σ, by simp, Nat.zero_le _, D, TK.refl _, he, hit, eσ, iσ, by simpa using h⟩
  rintro k s₁ ⟨i, old, ε₁, σ₁, rfl, hi, D₁, k₁, he₁, hit₁, eσ₁, iσ₁, hw⟩
  obtain ⟨oi, hoi, hci, hdi⟩ := id hit₁
  have tI : NX oi ∧ NT oi := ⟨fun _ _ => ⟨_, hci, by decide⟩, NT.fields hdi⟩
  cases hv : b[i]? with
  | none =>
    have hsz : b.size ≤ i := by simpa using hv
    refine enb_pyNext_end hA.hn he₁ hit₁ hv fun h' hs => ?_
    obtain ⟨D₂, k₂⟩ := D₁.ext s₁.toks iσ₁ ig iH iL hoi tI.2 hs
    have : (enumV b).drop i = [] := by rw [List.drop_eq_nil_iff]; simp; omega
    rw [this] at hw
    exact wpAny_execs_nil ⟨.next, ε₁, σ₁, D₂, k₁.trans k₂, rfl, hw⟩
  | some c =>
    have hlt : i < b.size := (Array.getElem?_eq_some_iff.mp hv).1
    have hdrop : (enumV b).drop i = .tup [.int i, .int (c.toNat : Int)] :: (enumV b).drop (i + 1) := by
      have hl : i < (enumV b).length := by simp [hlt]
      rw [List.drop_eq_getElem_cons hl]
      congr 1
      simp [enumV, hv]
    rw [hdrop] at hw
    refine enb_pyNext_item he₁ hit₁ hv hne fun h₂ he₂ hit₂ ht₂ hz₂ hk₂ => ?_
    obtain ⟨D₂, k₂⟩ := D₁.ext2 (h' := h₂) (s₁.toks + 2) eσ₁ eg eH eL iσ₁ ig iH iL he₁ (NT.fields rfl) hoi tI.2 hk₂
    refine wpAny_letOwnedTupleGo_enum he₂ fun h₃ he₃ hs₃ => ?_
    replace hs₃ : Heap.SameBut e h₂ h₃ := hs₃
    obtain ⟨D₃, k₃⟩ := D₂.other (h' := h₃) (s₁.toks + 2) eσ₁ eg eH eL hs₃ he₂ (NT.fields rfl)
    have hel : e < s₁.heap.objs.size := Heap.lt_size he₁
    have ht₃ : IsTup h₃ s₁.heap.objs.size (List.toArray [.int i (s₁.toks + 1), .int c.toNat s₁.toks]) := ⟨_, (hs₃.2 _ (Nat.ne_of_gt hel)).trans ht₂, rfl, _, rfl⟩
    have hit₃ := ext_bi hit₂ hs₃ (Ne.symm hne)
    obtain ⟨oi', hoi', hci', hdi'⟩ := id hit₃
    obtain ⟨oe, hoe, hce, ⟨vse, hde⟩, hback⟩ : ∃ oe : Obj, h₃.get? e = some oe ∧ oe.cls = .type "enumerate" ∧ (∃ vs, oe.data = .fields vs) ∧ (∀ h : Heap, h.get? e = some oe → IsEnum h e it ((i + 1 : Nat) : Int) (.int c.toNat s₁.toks)) :=
      ⟨_, he₃, rfl, ⟨_, rfl⟩, fun h q => by
        have : ((i + 1 : Nat) : Int) = (i : Int) + 1 := by push_cast; rfl
        rw [this]; exact q⟩
    have D₄ := D₃.toghost eσ₁ eH eL hoe ⟨fun _ _ => ⟨_, hce, by decide⟩, NT.fields hde⟩
    have gI : ∀ oe, gadd g e oe it = none := fun oe => by simp [gadd, Ne.symm hne, ig]
    have D₅ := D₄.toghost iσ₁ iH iL hoi' ⟨fun _ _ => ⟨_, hci', by decide⟩, NT.fields hdi'⟩
    have a' := (hA.gadd (a := e) (o := oe) eg).gadd (a := it) (o := oi') (gI _)
    have kx : TK s.heap h₃ := (k₁.trans k₂).trans k₃
    have rx : RV h₃ (.tup [.int i, .int (c.toNat : Int)]) (.ref s₁.heap.objs.size) := rv_tup ht₃ ⟨_, _, rfl, ⟨_, rfl⟩, _, _, rfl, ⟨_, rfl⟩, rfl⟩
    refine wpAny_mono (hw A _ _ _ a' D₅ rx) (fun _ s₅ ⟨ε₅, σ₅, D₆, k₅, h₅⟩ => ?_) fun e s' z => fin e s' (((z.unghost (gI _) iL).unghost eg eL).trans kx)
    refine wpAny_mono (h₅ A _ s₅ a' D₆) (fun f s₆ ⟨fl, ε₆, σ₆, D₇, k₆, rf, h₆⟩ => ?_) fun e s' z => fin e s' (((z.unghost (gI _) iL).unghost eg eL).trans (kx.trans k₅))
    have D₈ := D₇.unghost (gI _) iL
    have D₉ := D₈.unghost eg eL
    have hE : IsEnum s₆.heap e it ((i + 1 : Nat) : Int) (.int c.toNat s₁.toks) := by
      obtain ⟨o₆, q, se⟩ := D₈.S.gs e oe (by simp [gadd])
      rw [se.eq hde] at q
      exact hback _ q
    have hI : s₆.heap.get? it = some oi' := by
      obtain ⟨o₆, q, se⟩ := D₇.S.gs it oi' (by simp [gadd])
      rw [q, se.eq hdi']
    have eσ₆ : σ₆ e = none := by
      cases q : σ₆ e with
      | none => rfl
      | some ob => have := D₈.S.gσ e (by rw [q]; exact nofun); simp [gadd] at this
    have iσ₆ : σ₆ it = none := by
      cases q : σ₆ it with
      | none => rfl
      | some ob => have := D₇.S.gσ it (by rw [q]; exact nofun); simp [gadd] at this
    have k₇ : TK s.heap s₆.heap := (kx.trans k₅).trans k₆
    cases fl with
    | next => rw [show f = _ from rf]; exact ⟨b.size - (i + 1), by omega, i + 1, _, ε₆, σ₆, rfl, hlt, D₉, k₇, hE, ⟨oi', hI, hci', hdi'⟩, eσ₆, iσ₆, h₆.2⟩
    | cont => rw [show f = _ from rf]; exact ⟨b.size - (i + 1), by omega, i + 1, _, ε₆, σ₆, rfl, hlt, D₉, k₇, hE, ⟨oi', hI, hci', hdi'⟩, eσ₆, iσ₆, h₆.2⟩
    | brk => rw [show f = _ from rf]; exact ⟨.next, ε₆, σ₆, D₉, k₇, rfl, h₆⟩
    | ret y => obtain ⟨w, rfl, rw'⟩ := rf; exact ⟨.ret y, ε₆, σ₆, D₉, k₇, ⟨w, rfl, rw'⟩, h₆⟩
end
end Mine
end
section
open PySem PySem.W PyProof.Rows PySem.Calls PySem.Spec
set_option Elab.async false
set_option maxRecDepth 100000
set_option linter.unusedVariables false
set_option linter.unusedSectionVars false
namespace Mine
section
variable {C : Cx} {g : Gh} {σ σ' : Store} {s s' : Shared} {env : Env} {ε : Loc} {n : Nat} {A : Around} {Q : V → Store → Prop} {X X' : AX → Store → Prop} {QB : Bool → Store → Prop} {QS : Fl → Loc → Store → Prop} {QA QA' : Loc → Store → Prop}
inductive EnumS (C : Cx) (n : Nat) (g : Gh) (env : Env) (ε : Loc) (s : Shared) (target : Expr) (body : List Stmt) (QS : Fl → Loc → Store → Prop) (X : AX → Store → Prop) (x : Value) (s₁ : Shared) : Prop
  | mk (e it : Addr) (t : Tok) (b : Array UInt8) (h' : Heap) (σ₁ : Store) (s₀ : Shared) (q1 : x = .ref e) (q2 : s₁ = { s₀ with heap := h' }) (q3 : Hd C g env ε σ₁ s₁) (q4 : TK s.heap s₁.heap) (q5 : σ₁ e = none) (q6 : g e = none) (q7 : C.H.get? e = none) (q8 : e ≠ env.locals) (q9 : σ₁ it = none) (q10 : g it = none) (q11 : C.H.get? it = none) (q12 : it ≠ env.locals) (q13 : e ≠ it)
      (q14 : IsEnum h' e it 0 .none) (q15 : KBw.IsBytesIter h' it b t 0) (q16 : ForW C (n + 1) env target body (fun _ => True) QS X (enumV b) ε σ₁)
theorem TS_ForEnum {elts : List Expr} {k₀} {tp np cpos pos : Pos} {e : Expr} {body : List Stmt} (hf : env.frame = some env.locals) (hn : EV C (n + 1) env ε (.Name "enumerate" np) σ (fun x σ₁ => x = .raw (.type "enumerate") ∧ σ₁ = σ) X)
    (h : EV C (n + 1) env ε e σ (fun x σ₁ => ∃ b, x = .bytes b ∧ ForW C (n + 1) env (.Tuple elts k₀ tp) body (fun _ => True) QS X (enumV b) ε σ₁) X)
    (he : eval (.Call (.Name "enumerate" np) [e] [] cpos) env = (do callWith cpos (← eval (.Name "enumerate" np) env) [] (backTo cpos (starEach [e] env)) []) := by rfl)
    (he2 : starEach [e] env = (false, eval e env) :: starEach [] env := by rfl) (hp : (backTo cpos (starEach [] env)).any (·.1) = false := by rfl)
    (hs : ∀ x, foldedSetIterable (.Call (.Name "enumerate" np) [e] [] cpos) env x = pure x := by intro _; rfl) : TS C (n + 1) env ε (exec (.For (.Tuple elts k₀ tp) (.Call (.Name "enumerate" np) [e] [] cpos) body [] pos) env) σ QS X := fun A g s a D => by
  refine wpAny_For (wpAny_mono (Q := EnumS C n g env ε s (.Tuple elts k₀ tp) body QS X) ?_ (fun x s₁ ⟨e, it, t, b, h', σ₁, s₀, q1, q2, D₁, k₁, e1, e2, e3, e4, i1, i2, i3, i4, hne, hE, hI, hw⟩ => ?_) fun _ _ z => z) hs
  · rw [he]
    refine wpAny_bind (hn.use a D (fun v x σ₁ s₁ D₁ k₁ r₁ ⟨q1, q2⟩ => ?_) fun _ _ z => z)
    subst q1 q2
    rw [show v = _ from r₁]
    have hl : TL C (n + 1) env ε (spliced (backTo cpos (starEach [e] env))) σ₁ (fun xs σ₂ => ∃ b, xs = [.bytes b] ∧ ForW C (n + 1) env (.Tuple elts k₀ tp) body (fun _ => True) QS X (enumV b) ε σ₂) X :=
      TL_cons (TV.mono h (fun x σ₂ ⟨b, q1, q2⟩ => TL_nil ⟨b, by rw [q1], q2⟩) fun _ _ z => z) he2
    have hl' := hl A g s₁ a D₁
    rw [he2] at hl' ⊢
    refine callWith_of (P := fun h => ∃ k, (k = Keeper.frame ∨ k = Keeper.machine ∨ k = Keeper.boundFrame) ∧ Looks C.M h (keeperOf (.type "enumerate")) k) (by show ((false || (backTo cpos (starEach [] env)).any (·.1)) || false) = false; rw [hp]; rfl) (fun h x => x)
      (evalArgs_plain (wpAny_mono hl' (fun vs s₂ ⟨xs, σ₂, D₂, k₂, r₂, b, q1, q2⟩ => ⟨Kp_type g s₂ D₂.S, ?_⟩) fun _ _ z => z.trans k₁))
    subst q1
    obtain ⟨v', r', rfl, ⟨t, rfl⟩, q⟩ := r₂
    rw [show r' = [] from q]
    show wpAny _ _ (call (.type "enumerate") [.bytes b t]) _ _ _
    have f1 := D₂.fresh (a := s₂.heap.objs.size) (Nat.le_refl _)
    have f2 := D₂.fresh (a := s₂.heap.objs.size + 1) (Nat.le_succ _)
    refine call_enumerate_bytes fun h' hE hI hz hk => ?_
    have D₃ := D₂.grown (h' := h') s₂.toks hk
    exact ⟨_, _, t, b, h', σ₂, s₂, rfl, rfl, D₃, (k₁.trans k₂).trans (TK.of_keeps hk), f2.1, f2.2.1, f2.2.2.1, f2.2.2.2, f1.1, f1.2.1, f1.2.2.1, f1.2.2.2, Nat.succ_ne_self _, hE, hI, q2⟩
  · subst q1 q2
    refine wpAny_pyIter_enum hE ?_
    refine codeAny_mono (for_enum a hf D₁ e1 e2 e3 e4 i1 i2 i3 i4 hne hE hI hw) fun r s' z => ?_
    rcases r with e | f
    · exact wpAny_mono z (fun _ _ q => q.trans k₁) fun _ _ q => q.trans k₁
    · exact z.trans k₁
end
end Mine
end
section
open PySem PySem.W PyProof.Rows PySem.Calls PySem.Spec
set_option Elab.async false
set_option maxRecDepth 100000
set_option linter.unusedVariables false
set_option linter.unusedSectionVars false
namespace Mine
theorem RVs.set {h : Heap} {x : V} {v : Value} (r : RV h x v) : ∀ {l : List V} {vs : List Value} (i : Nat), RVs h l vs → RVs h (l.set i x) (vs.set i v)
  | [], _, _, q => by rw [show _ = [] from q]; rfl
  | y :: l, _, 0, q => by obtain ⟨w, t, rfl, q1, q2⟩ := q; exact ⟨v, t, rfl, r, q2⟩
  | y :: l, _, i + 1, q => by obtain ⟨w, t, rfl, q1, q2⟩ := q; exact ⟨w, _, rfl, q1, RVs.set r i q2⟩
section
variable {C : Cx} {g : Gh} {σ σ' : Store} {s s' : Shared} {env : Env} {ε : Loc} {n : Nat} {A : Around} {Q : V → Store → Prop} {X X' : AX → Store → Prop} {QB : Bool → Store → Prop} {QS : Fl → Loc → Store → Prop} {QA QA' : Loc → Store → Prop}
theorem set_listI {l : Addr} {items : List V} {i : Int} {x : V} {QU : Store → Prop} (hl : σ l = some (.list items)) (h0 : 0 ≤ i) (hfit : i < 2 ^ 63) (hi : i < items.length) (h : QU (upd σ l (.list (items.set i.toNat x)))) : OPU C n env ε (.obj l) (.int i) x σ QU X := fun A g s vo vi v hA D r r' r'' => by
  rw [show vo = _ from r]
  obtain ⟨t, rfl⟩ := r'
  obtain ⟨vs, hls, hv⟩ := D.S.sim l _ hl
  obtain ⟨k, ho⟩ := id hls
  have hL := hls.isList
  have hlen := hv.length
  unfold setItem
  try with_reducible refine wpAny_holding ?_
  first | refine wpAny_bind (wpAny_pure ?_) | skip
  refine wpAny_bind (wpAny_sequenceKey hL.typeIs (by decide) ?_)
  refine wpAny_bind (wpAny_callSpecial?_slot (name := PySem.Str.ofString "__setitem__") hL.typeIs slot_list_setitem
    (wpAny_call_entry slot_list_setitem hL.typeIs entry_list_setitem ?_ (args_list_setitem _ _ _)))
  show wpAny _ _ (Builtin.List.listSubscript? (.int i t) >>= _) _ _ s
  refine wpAny_bind (wpAny_listSubscript_int (fitsIndex_of h0 hfit) ?_)
  clear hfit
  obtain ⟨i, rfl⟩ := Int.eq_ofNat_of_zero_le h0
  have hi2 : i < vs.length := by omega
  have hx' : vs.toArray[i]? = some (vs[i]'hi2) := by simp [hi2]
  show wpAny _ _ ((seqItemAt l i >>= fun r => pure (r.map (i, ·))) >>= _) _ _ s
  refine wpAny_bind (wpAny_bind (wpAny_seqItemAt ho rfl (wpAny_pure ?_)))
  rw [hx']
  show wpAny _ _ (setSeqItemAt l i v >>= _) _ _ s
  have hu := get?_update_seq (a := l) (c := "list") (xs := vs.toArray) (n := k) ho (·.setIfInBounds i v)
  have hsz : ((vs.toArray.setIfInBounds i v).size == vs.toArray.size) = true := by simp
  rw [if_pos hsz] at hu
  obtain ⟨D', k'⟩ := D.set (h' := s.heap.update l (Obj.mapSeq (·.setIfInBounds i v))) (x := .list (items.set i x)) s.toks hl (Heap.SameBut.update ..) ho (NT.list rfl)
    fun kk => ⟨vs.set i v, ⟨k, by rw [hu]; simp [seqObj, listOb]⟩, RVs.set (RV.mono kk _ _ r'') i (RVs.mono kk _ _ hv)⟩
  refine wpAny_bind (wpAny_setSeqItemAt ho rfl ?_)
  first
    | exact wpAny_bind (wpAny_pure (wpAny_pure ⟨.none, rfl, wpAny_pure ⟨_, D', k', h⟩⟩))
    | exact wpAny_pure ⟨.none, rfl, wpAny_pure ⟨_, D', k', h⟩⟩
end
end Mine
end
section
open PySem PySem.W PyProof.Rows PySem.Calls PySem.Spec
set_option Elab.async false
set_option maxRecDepth 100000
namespace Mine
def BaseInts (C : Cx) (l : Addr) (zs : List Int) : Prop := ∃ vs : List Value, C.H.IsList l vs.toArray ∧ IntsAre vs zs
section
variable {C : Cx} {g : Gh} {σ : Store} {s : Shared} {env : Env} {ε : Loc} {n : Nat} {Q : V → Store → Prop} {X : AX → Store → Prop}
theorem cut_base {l : Addr} {zs : List Int} {lo hi : Option Int} (hl : BaseInts C l zs) (hz : zs.length ≤ 1000000) (h : ∀ r, σ r = none → Q (.obj r) (upd σ r (.list (cut (zs.map .int) lo hi)))) : OPC C n env ε (.obj l) lo hi σ Q X := fun A g s v sl vl vu a D r hsl pl pu => by
  rw [show v = _ from r]
  obtain ⟨vs, ⟨o, e, hc, m, hd⟩, hi'⟩ := hl
  have hls : s.heap.IsList l vs.toArray := ⟨o, D.S.base _ _ e, hc, m, hd⟩
  have hv : RVs s.heap (zs.map V.int) vs := rvs_ints hi'
  have hvl : vs.length = zs.length := hi'.length
  refine ⟨"list", _, PySem.F.slot_list_getitem.lookup, hls.typeIs, wpAny_getItem_list_slice hls hsl pl pu .none (by simp) ?_ (by rw [List.size_toArray, hvl, sizeLine_eq]; omega)⟩
  rw [slicePick_plain]
  have hm : (zs.map V.int).length = zs.length := by simp
  simp only [List.size_toArray, hvl, ← hm]
  obtain ⟨f1, D', k⟩ := D.alloc { cls := .type "list", data := .seq ((vs.drop (lo.elim 0 (clipAt (zs.map V.int).length))).take (hi.elim (zs.map V.int).length (clipAt (zs.map V.int).length) - lo.elim 0 (clipAt (zs.map V.int).length))).toArray } s.toks (x := .list (cut (zs.map V.int) lo hi))
    ⟨_, PL.new _ _ _, RVs.mono (TK.push _ _) _ _ ((hv.drop _).take _)⟩
  exact ⟨.obj _, _, D', k, rv_obj, h _ f1⟩
end
end Mine
end
section
open PySem PySem.W PyProof.Rows PySem.Calls PySem.Spec
set_option Elab.async false
set_option maxRecDepth 100000
set_option maxHeartbeats 0
namespace Mine
theorem fill1 : PySem.Challenge.rw_og0085_02 = PySem.Challenge.rw_og0085_02 ∧ hd.heap_1 = hd.heap_1 := by k_fill; exact ⟨rfl, rfl⟩
theorem all1 {P : List Value → Prop} (h : ∀ a, P [a]) (vs : List Value) (e : vs.length = 1) : P vs := by
  cases vs with | nil => cases e | cons a l => cases l with | nil => exact h a | cons b l => cases e
theorem all2 {P : List Value → Prop} (h : ∀ a b, P [a, b]) (vs : List Value) (e : vs.length = 2) : P vs := by
  cases vs with | nil => cases e | cons a l => exact all1 (P := fun l => P (a :: l)) (h a) l (Nat.succ.inj e)
theorem all3 {P : List Value → Prop} (h : ∀ a b c, P [a, b, c]) (vs : List Value) (e : vs.length = 3) : P vs := by
  cases vs with | nil => cases e | cons a l => exact all2 (P := fun l => P (a :: l)) (h a) l (Nat.succ.inj e)
theorem all4 {P : List Value → Prop} (h : ∀ a b c d, P [a, b, c, d]) (vs : List Value) (e : vs.length = 4) : P vs := by
  cases vs with | nil => cases e | cons a l => exact all3 (P := fun l => P (a :: l)) (h a) l (Nat.succ.inj e)
structure L1 (C : Cx) : Prop where
  ok : C.Ok
  kp : C.KP = hd.heap_1
theorem L1.k {C : Cx} (h : L1 C) {α : Type} {f : Frag → α} {r : α} (e : f (hd.heap_1 C.w.params) = r) : f C.K = r := by
  unfold Cx.K; rw [h.kp]; exact e
section
variable {C : Cx} {σ : Store} {n : Nat} {env : Env} {ε : Loc} {Q : V → Store → Prop} {X : AX → Store → Prop} {QS : Fl → Loc → Store → Prop}
theorem gl (O : L1 C) {x : Str} {pos : Pos} {v : Value} (h : Q (.raw v) σ) (e : nsIn (hd.heap_1 C.w.params) mainGlobals x = some (some v) := by k_is) (hk : env.scope.kind = .function := by rfl) (hl : env.kindOf x = some .globalImplicit := by rfl)
    (hg : env.globals = mainGlobals := by rfl) (hd : (x == ("__debug__" : Str)) = false := by decide) : EV C n env ε (.Name x pos) σ Q X := EV_global O.ok (O.k (f := fun K => nsIn K mainGlobals x) e) (fun _ _ => rv_raw) h hk hl hg hd
theorem bl (O : L1 C) {x : Str} {pos : Pos} {v : Value} (h : Q (.raw v) σ) (e : nsIn (hd.heap_1 C.w.params) mainGlobals x = some none := by k_is) (hv : bootBuiltins x = some v := by boot_by_name) (hx : x ≠ "__name__" := by decide) (hk : env.scope.kind = .function := by rfl) (hl : env.kindOf x = some .globalImplicit := by rfl)
    (hg : env.globals = mainGlobals := by rfl) (hb : env.builtins = builtinsNs := by rfl) (hd : (x == ("__debug__" : Str)) = false := by decide) : EV C n env ε (.Name x pos) σ Q X := EV_builtin O.ok (O.k (f := fun K => nsIn K mainGlobals x) e) hv h hx hk hl hg hb hd
abbrev Qgc (C : Cx) (n : Nat) (v : Value) (Q : V → Store → Prop) (X : AX → Store → Prop) : List V → Store → Prop := fun xs σ₁ => CALL C n v xs σ₁ Q X
abbrev Qbc (C : Cx) (n : Nat) (env : Env) (ε : Loc) (v : Value) (Q : V → Store → Prop) (X : AX → Store → Prop) : List V → Store → Prop := fun xs σ₁ => OPL C n env ε (fun vs => call v vs) xs σ₁ Q X
theorem gc (O : L1 C) {x : Str} {np pos : Pos} {v : Value} {a : Expr} {as : List Expr} (h : TL C n env ε (spliced (backTo pos (starEach (a :: as) env))) σ (Qgc C n v Q X) X) (e : nsIn (hd.heap_1 C.w.params) mainGlobals x = some (some v) := by k_is)
    (kp : keepIn (hd.heap_1 C.w.params) v = true := by k_is) (hk : env.scope.kind = .function := by rfl) (hl : env.kindOf x = some .globalImplicit := by rfl)
    (hg : env.globals = mainGlobals := by rfl) (hd : (x == ("__debug__" : Str)) = false := by decide)
    (he : eval (.Call (.Name x np) (a :: as) [] pos) env = (do callWith pos (← eval (.Name x np) env) [] (backTo pos (starEach (a :: as) env)) []) := by rfl)
    (he2 : starEach (a :: as) env = (false, eval a env) :: starEach as env := by rfl) (hp : (backTo pos (starEach as env)).any (·.1) = false := by rfl) : EV C n env ε (.Call (.Name x np) (a :: as) [] pos) σ Q X :=
  EV_Call (gl O ⟨_, one_raw _, CW_cons (TL.mono h fun xs σ₁ q => ⟨Kp_K O.ok (O.k (f := fun K => keepIn K v) kp), OPL_call q⟩) he2 hp⟩ e hk hl hg hd) he
theorem gc0 (O : L1 C) {x : Str} {np pos : Pos} {v : Value} (h : CALL C n v [] σ Q X) (e : nsIn (hd.heap_1 C.w.params) mainGlobals x = some (some v) := by k_is)
    (kp : keepIn (hd.heap_1 C.w.params) v = true := by k_is) (hk : env.scope.kind = .function := by rfl) (hl : env.kindOf x = some .globalImplicit := by rfl)
    (hg : env.globals = mainGlobals := by rfl) (hd : (x == ("__debug__" : Str)) = false := by decide)
    (he : eval (.Call (.Name x np) [] [] pos) env = (do callWith pos (← eval (.Name x np) env) [] (backTo pos (starEach [] env)) []) := by rfl) : EV C n env ε (.Call (.Name x np) [] [] pos) σ Q X :=
  EV_Call (gl O ⟨_, one_raw _, CW_nil (Kp_K O.ok (O.k (f := fun K => keepIn K v) kp)) (OPL_call h)⟩ e hk hl hg hd) he
theorem bc (O : L1 C) {x : Str} {np pos : Pos} {v : Value} {a : Expr} {as : List Expr} (h : TL C n env ε (spliced (backTo pos (starEach (a :: as) env))) σ (Qbc C n env ε v Q X) X) (e : nsIn (hd.heap_1 C.w.params) mainGlobals x = some none := by k_is)
    (hv : bootBuiltins x = some v := by boot_by_name) (kp : ∀ σ, Kp C σ v := by first | exact fun _ => Kp_builtin | exact fun _ => Kp_type) (hx : x ≠ "__name__" := by decide) (hk : env.scope.kind = .function := by rfl) (hl : env.kindOf x = some .globalImplicit := by rfl)
    (hg : env.globals = mainGlobals := by rfl) (hb : env.builtins = builtinsNs := by rfl) (hd : (x == ("__debug__" : Str)) = false := by decide)
    (he : eval (.Call (.Name x np) (a :: as) [] pos) env = (do callWith pos (← eval (.Name x np) env) [] (backTo pos (starEach (a :: as) env)) []) := by rfl)
    (he2 : starEach (a :: as) env = (false, eval a env) :: starEach as env := by rfl) (hp : (backTo pos (starEach as env)).any (·.1) = false := by rfl) : EV C n env ε (.Call (.Name x np) (a :: as) [] pos) σ Q X :=
  EV_Call (bl O ⟨_, one_raw _, CW_cons (TL.mono h fun xs σ₁ q => ⟨kp _, q⟩) he2 hp⟩ e hv hx hk hl hg hb hd) he
end
section
variable {C : Cx}
theorem excIn60 (O : L1 C) : ExcIn C.K 60 := by
  refine ⟨_, _, _, _, _, _, _, _, _, _, _, _, _, _, _, _, O.k (f := fun K => K.lookup 60) (by k_is), ?_, ?_, ?_, ?_⟩ <;> decide
theorem over60 (O : L1 C) : excOver C.K 60 := ⟨_, O.k (f := fun K => clsIn K 60) (by k_is), .up _ _ (.up _ _ .base)⟩
abbrev exNs (what : Str) (at_ : V) : AO := .ns [("what", .str what), ("at", at_)]
theorem init_spec (O : L1 C) {n : Nat} {σ : Store} {e : Addr} {what : Str} {at_ : V} {args : List V} {X : AX → Store → Prop} (hx : σ e = some (.exc 60 none true)) (ha : args = [.obj e, .str what, at_] ∨ (args = [.obj e, .str what] ∧ at_ = .tup [.int 0, .int 0])) :
    CALL C (n + 3) (.ref 37) args σ (fun r σ' => r = .none ∧ ∃ d, d ≠ e ∧ σ d = none ∧ σ' = upd (upd σ e (.exc 60 (some d) true)) d (exNs what at_)) X := by
  refine CALL_bind (names := ["self", "what", "at"]) (all := [.obj e, .str what, at_]) O.ok (O.k (f := fun K => K.lookup 37) (by k_is)) (O.k (f := fun K => codeIn K _ _) (by k_is)) ?_ (by decide) (by decide) ?_
  · intro s vs K r
    rcases ha with rfl | ⟨rfl, rfl⟩
    · exact (all3 (P := fun vs => RVs s.heap [.obj e, .str what, at_] vs → ∃ ws, RVs s.heap [.obj e, .str what, at_] ws ∧ BindsTo s _ ⟨vs, []⟩ ((["self", "what", "at"] : List Str).zip ws)) (fun a b c r => ⟨[a, b, c], r, BindsTo.of_defaults (T := 30) rfl (K _ _ (O.k (f := fun K => K.lookup 30) (by k_is))) rfl rfl rfl⟩) vs r.length) r
    · refine (all2 (P := fun vs => RVs s.heap [.obj e, .str what] vs → ∃ ws, RVs s.heap [.obj e, .str what, .tup [.int 0, .int 0]] ws ∧ BindsTo s _ ⟨vs, []⟩ ((["self", "what", "at"] : List Str).zip ws)) (fun a b r => ?_) vs r.length) r
      refine ⟨[a, b, .ref 29], ?_, BindsTo.of_defaults (T := 30) rfl (K _ _ (O.k (f := fun K => K.lookup 30) (by k_is))) rfl rfl rfl⟩
      obtain ⟨v, r', e1, q1, w, r'', e2, q2, q3⟩ := r
      cases e1; cases e2
      exact ⟨_, _, rfl, q1, _, _, rfl, q2, _, _, rfl, ⟨29, _, rfl, ⟨_, K _ _ (O.k (f := fun K => K.lookup 29) (by k_is)), rfl, _, rfl⟩, ⟨_, _, rfl, ⟨_, rfl⟩, _, _, rfl, ⟨_, rfl⟩, rfl⟩⟩, rfl⟩
  intro L
  refine TS_cons (TS_Expr (EV_Method (EV_builtin O.ok (O.k (f := fun K => nsIn K mainGlobals _) (by k_is)) (by boot_by_name) ?_)))
  refine meth_type O.ok (id := "Exception.__init__") (by kernel_rfl) (by decide +kernel) (O.k (f := fun K => findCls K _ _ _) (by k_is)) (by decide +kernel) ?_
  refine CW_cons ?_
  refine TL_cons (EV_local rfl (TL_cons (EV_local rfl (TL_nil ⟨Kp_builtin, ?_⟩))))
  refine exc_init O.ok (excIn60 O) hx (by simp) ?_
  refine TS_cons (TS_SetAttrG (EV_local rfl (EV_local rfl ?_)))
  refine SA_exc0 O.ok hx (O.k (f := fun K => findIn K _ _) (by k_is)) (over60 O) (O.k (f := fun K => takerIn K _ _) (by k_is)) (O.k (f := fun K => hasDictIn K _) (by k_is)) ?_
  intro d hd hσd
  refine TS_cons (TS_SetAttrG (EV_local rfl (EV_local rfl ?_)))
  refine SA_exc1 (d := d) (fr := true) O.ok (by rw [upd_ne _ _ (Ne.symm hd), upd_self]) (upd_self _ _ _) (by simp) (O.k (f := fun K => findIn K _ _) (by k_is)) (over60 O) (O.k (f := fun K => takerIn K _ _) (by k_is)) (O.k (f := fun K => hasDictIn K _) (by k_is)) ?_
  refine TS_nil ⟨rfl, d, hd, hσd, ?_⟩
  funext b
  have : ¬ (PySem.Str.ofString "what" = PySem.Str.ofString "at") := by decide
  by_cases hb : b = d <;> simp [upd, hb, putA, this]
end
end Mine
end
section
open PySem PySem.W PyProof.Rows PySem.Calls PySem.Spec
set_option Elab.async false
set_option maxRecDepth 100000
set_option maxHeartbeats 0
namespace Mine
def Ex (S : List Addr) (σ σ' : Store) : Prop := ∀ a o, σ a = some o → a ∉ S → σ' a = some o
theorem Ex.refl {S : List Addr} {σ : Store} : Ex S σ σ := fun _ _ e _ => e
theorem Ex.trans {S : List Addr} {σ σ' σ'' : Store} (h : Ex S σ σ') (h' : Ex S σ' σ'') : Ex S σ σ'' := fun a o e n => h' a o (h a o e n) n
theorem Ex.mono {S T : List Addr} {σ σ' : Store} (h : Ex S σ σ') (i : ∀ a, a ∈ S → a ∈ T) : Ex T σ σ' := fun a o e n => h a o e fun q => n (i a q)
theorem Ex.new {S : List Addr} {σ : Store} {a : Addr} {o : AO} (h : σ a = none) : Ex S σ (upd σ a o) := fun b x e _ => by
  have : b ≠ a := fun q => by rw [q, h] at e; cases e
  rw [upd_ne _ _ this]; exact e
theorem Ex.set {S : List Addr} {σ : Store} {a : Addr} {o : AO} (h : a ∈ S) : Ex S σ (upd σ a o) := fun b x e n => by
  have : b ≠ a := fun q => n (q ▸ h)
  rw [upd_ne _ _ this]; exact e
theorem Ex.get {S : List Addr} {σ σ' : Store} (h : Ex S σ σ') {a : Addr} {o : AO} (e : σ a = some o) (n : a ∉ S := by simp) : σ' a = some o := h a o e n
theorem Ex.gone {S : List Addr} {σ σ' : Store} (h : Ex S σ σ') {a : Addr} (e : σ' a = none) (n : a ∉ S := by simp) : σ a = none := by
  cases q : σ a with
  | none => rfl
  | some o => rw [h a o q n] at e; cases e
theorem Ex.drop {S : List Addr} {σ σ' : Store} (h : Ex S σ σ') {a : Addr} (e : σ a = none) : Ex S σ (drop σ' a) := fun b o q n => by
  have : b ≠ a := fun z => by rw [z, e] at q; cases q
  rw [drop_ne _ this]; exact h b o q n
def Flt (S : List Addr) (σ : Store) (P : V → Prop) : AX → Store → Prop := fun ax σ' => ax.C = 60 ∧ (∃ w at_, σ' ax.d = some (exNs w at_) ∧ P at_) ∧ Ex S σ σ'
section
variable {C : Cx} {σ : Store} {n : Nat} {env : Env} {ε : Loc} {X : AX → Store → Prop} {QS : Fl → Loc → Store → Prop}
theorem fault_spec (O : L1 C) {what : Str} {at_ : V} {args : List V} (ha : args = [.str what, at_] ∨ (args = [.str what] ∧ at_ = .tup [.int 0, .int 0])) :
    CALL C (n + 4) (.ref 60) args σ (fun r σ' => ∃ e d, r = .obj e ∧ σ e = none ∧ σ d = none ∧ d ≠ e ∧ σ' = upd (upd σ e (.exc 60 (some d) true)) d (exNs what at_)) X := by
  refine CALL_exc O.ok (excIn60 O) (O.k (f := fun K => findIn K _ _) (by k_is)) (O.k (f := fun K => isFn K _) (by k_is)) (by rcases ha with rfl | ⟨rfl, _⟩ <;> simp) fun x hx => ?_
  refine (init_spec (n := n) (what := what) (at_ := at_) O (e := x) (upd_self _ _ _) (by rcases ha with rfl | ⟨rfl, h⟩; exact .inl rfl; exact .inr ⟨rfl, h⟩)).mono ?_ fun _ _ z => z
  rintro r σ' ⟨rfl, d, h1, h2, rfl⟩
  rw [upd_ne _ _ h1] at h2
  refine ⟨rfl, x, d, rfl, hx, h2, h1, ?_⟩
  funext b
  by_cases hb : b = d <;> by_cases hb' : b = x <;> simp [upd, hb, hb']
theorem raised {S : List Addr} {σ₀ σ : Store} {P : V → Prop} (O : L1 C) {e d : Addr} {what : Str} {at_ : V} (hs : Ex S σ₀ σ) (h1 : σ e = none) (h2 : σ d = none) (h3 : d ≠ e) (hP : P at_) (h0 : σ₀ e = none) (hX : ∀ ax σ, Flt S σ₀ P ax σ → X ax σ) :
    ∃ a c d', V.obj e = .obj a ∧ (upd (upd σ e (.exc 60 (some d) true)) d (exNs what at_)) a = some (.exc c (some d') true) ∧ ExcIn C.K c ∧ X ⟨c, d'⟩ (drop (upd (upd σ e (.exc 60 (some d) true)) d (exNs what at_)) a) := by
  refine ⟨e, 60, d, rfl, by rw [upd_ne _ _ (Ne.symm h3), upd_self], excIn60 O, hX _ _ ⟨rfl, ⟨what, at_, ?_, hP⟩, Ex.drop (fun a o q n => ?_) h0⟩⟩
  · rw [drop_ne _ h3, upd_self]
  · have q' := hs a o q n
    rw [upd_ne _ _ (fun z => by rw [z, h2] at q'; cases q'), upd_ne _ _ (fun z => by rw [z, h1] at q'; cases q')]
    exact q'
def be : Nat → Nat → List UInt8
  | 0, _ => []
  | k + 1, c => (c / 256 ^ k % 256).toUInt8 :: be k c
theorem be_length : ∀ (k c : Nat), (be k c).length = k
  | 0, _ => rfl
  | k + 1, c => by rw [be, List.length_cons, be_length k c]
theorem be_map (k c : Nat) : be k c = (List.range k).map fun i => (c / 256 ^ (k - 1 - i) % 256).toUInt8 := by
  induction k with
  | zero => rfl
  | succ k ih =>
    rw [be, ih, List.range_succ_eq_map, List.map_cons, List.map_map]
    congr 1
    apply List.map_congr_left
    intro i hi
    simp only [Function.comp_apply]
    rw [show k + 1 - 1 - (i + 1) = k - 1 - i from by omega]
theorem count_octets_spec (O : L1 C) {c w : Nat} (hw : w ≤ 4) {P : V → Prop} (hP : P (.tup [.int 0, .int 0])) :
    CALL C (n + 6) (.ref 146) [.int c, .int w] σ (fun r σ' => r = .bytes (be w c).toArray ∧ c < 256 ^ w ∧ Ex [] σ σ') (fun ax σ' => 256 ^ w ≤ c ∧ Flt [] σ P ax σ') := by
  refine CALL_cells (names := ["count", "width"]) O.ok (O.k (f := fun K => K.lookup 146) (by k_is)) (O.k (f := fun K => codeIn K _ _) (by k_is)) ?_ (by decide) (by walk_at "hk") (by decide) (by decide) ?_
  · exact all2 fun _ _ => rfl
  intro L hL
  show TS C (n + 5) _ [("width", .int w)] _ (upd σ (L + 1) (.cell (some (.int c)))) _ _
  have hL1 : σ (L + 1) = none := hL _ (Nat.le_succ _)
  refine TS_cons (TS_If (TT_Compare (EV_cell rfl (upd_self _ _ _) (EV_BinOp (EV_int (EV_local rfl ?_))))))
  have hp : (256 : Int) ^ (w : Int).toNat = ((256 ^ w : Nat) : Int) := by simp
  refine pow_ii (by omega) (by rw [show Builtin.Int.intBits 256 = 9 from by decide +kernel]; omega) (ge_ii ⟨_, rfl, ?_⟩)
  rw [hp]
  by_cases hc : 256 ^ w ≤ c
  · rw [if_pos (by simpa using (by exact_mod_cast hc : ((256 ^ w : Nat) : Int) ≤ c))]
    refine TS_cons (TS_Raise (n := n + 4) O.ok (gc O (TL_cons (EV_str (TL_nil ((fault_spec (n := n + 1) O (.inr ⟨rfl, rfl⟩)).mono ?_ fun _ _ z => z))))))
    rintro r σ' ⟨e, d, rfl, h1, h2, h3, rfl⟩
    exact raised O (S := []) (P := P) (σ₀ := σ) (X := fun ax σ' => 256 ^ w ≤ c ∧ Flt [] σ P ax σ') (Ex.new hL1) h1 h2 h3 hP ((Ex.new (S := []) hL1).gone h1) fun ax σ' z => ⟨hc, z⟩
  · rw [if_neg (by simpa using (by exact_mod_cast hc : ¬ ((256 ^ w : Nat) : Int) ≤ c))]
    refine TS_nil ?_
    show TS _ _ _ _ (execs (_ :: _) _) _ _ _
    refine TS_cons (TS_Return (bc O (TL_cons (EV_ListComp (IT_range (bl O ⟨rfl, rfl⟩)
      (TL_cons (EV_BinOp (EV_local rfl (EV_int (sub_ii (TL_cons (EV_Neg (TL_cons (EV_Neg (TL_nil ?_))) ))))))) )))))
    have hr : Builtin.Range.small ((w : Int) - 1) (-1) (-1) = true ∧ Builtin.Range.rangeSize ((w : Int) - 1) (-1) (-1) = (w : Nat) ∧ Builtin.divisionGoesByPylong (-1 - ((w : Int) - 1)) (-1) = false := by
      have : w = 0 ∨ w = 1 ∨ w = 2 ∨ w = 3 ∨ w = 4 := by omega
      rcases this with rfl | rfl | rfl | rfl | rfl <;> decide +kernel
    refine ⟨_, _, _, w, .inr (.inr ⟨rfl, by decide, hr.2.2⟩), hr.1, hr.2.1, ?_, fun Cl => ?_⟩
    · rw [upto_map]; simp; omega
    rw [upto_map]
    refine CmpW_each (fun σ' => σ' = upd σ (L + 1) (.cell (some (.int c)))) _ (fun i => .int ((c / 256 ^ (w - 1 - i) % 256 : Nat) : Int)) (fun _ _ => trivial) _ _ _ _ rfl (fun i hi ε σ' e => ?_) (fun σ' e => ?_)
    · subst e
      have hi' : i < w := by simpa using hi
      refine TA_Name (SN_local (TT_tests_nil ⟨rfl, ?_⟩))
      refine EV_BinOp (EV_BinOp (EV_cell rfl (upd_self _ _ _) (EV_BinOp (EV_int (EV_local rfl ?_)))))
      have e1 : ((w : Int) - 1 + (i : Int) * -1) = ((w - 1 - i : Nat) : Int) := by omega
      rw [e1]
      have hp' : (256 : Int) ^ (((w - 1 - i : Nat) : Int)).toNat = ((256 ^ (w - 1 - i) : Nat) : Int) := by simp
      have hpos : 0 < 256 ^ (w - 1 - i) := Nat.pos_of_ne_zero (by simp)
      refine pow_ii (by omega) (by rw [show Builtin.Int.intBits 256 = 9 from by decide +kernel]; omega) ?_
      rw [hp']
      refine div_ii (by omega) (by
        have : 256 ^ (w - 1 - i) ≤ 256 ^ 4 := Nat.pow_le_pow_right (by decide) (by omega)
        have h9 : 256 ^ (w - 1 - i) < 2 ^ 40 := Nat.lt_of_le_of_lt this (by decide)
        rw [Int.natAbs_natCast]
        exact Nat.lt_trans ((Nat.log2_lt (by omega)).mpr h9) (by decide)) ?_
      refine EV_int (mod_ii (by decide) ⟨?_, rfl⟩)
      rw [Int.fdiv_eq_ediv_of_nonneg _ (by omega), Int.fmod_eq_emod_of_nonneg _ (by decide)]
      push_cast
      rfl
    · subst e
      intro D hD
      refine TL_nil (bytes_ints (n := n + 4) (l := D) (ns := (List.range w).map fun i => ((c / 256 ^ (w - 1 - i) % 256 : Nat) : Int)) (by rw [upd_self]; simp) ?_ (by simp; omega) ?_)
      · intro k hk
        obtain ⟨i, _, rfl⟩ := List.mem_map.mp hk
        have := Nat.mod_lt (c / 256 ^ (w - 1 - i)) (show 0 < 256 by decide)
        omega
      · refine ⟨?_, by omega, (Ex.new hL1).trans (Ex.new hD)⟩
        rw [be_map]
        unfold byteList
        rw [List.map_map]
        rfl
end
end Mine
end
section
open PySem PySem.W PyProof.Rows PySem.Calls PySem.Spec
set_option Elab.async false
set_option maxRecDepth 100000
set_option maxHeartbeats 0
namespace Mine
section
variable {C : Cx} {σ : Store} {n : Nat} {env : Env} {ε : Loc} {X : AX → Store → Prop} {QS : Fl → Loc → Store → Prop}
theorem strLt_one (a b : Nat) : strLt ⟨#[a]⟩ ⟨#[b]⟩ = decide (a < b) := by
  have h := strLt_iff ⟨#[a]⟩ ⟨#[b]⟩
  simp only [List.cons_lt_cons_iff, List.lt_irrefl, and_false, or_false] at h
  rw [Bool.eq_iff_iff, h]; simp
theorem row_octets_spec (O : L1 C) {b : Array UInt8} (hz : b.size < 65536) :
    CALL C (n + 7) (.ref 160) [.bytes b] σ (fun r σ' => r = .bytes ((be 2 b.size).toArray ++ b) ∧ Ex [] σ σ') X := by
  refine CALL_def (names := ["row"]) O.ok (O.k (f := fun K => K.lookup 160) (by k_is)) (O.k (f := fun K => codeIn K _ _) (by k_is)) ?_ (by decide) (by decide) ?_
  · exact all1 fun _ => rfl
  intro L
  refine TS_cons (TS_Return (EV_BinOp (gc O (TL_cons (bc O (TL_cons (EV_local rfl (TL_nil (len_b (by omega) (TL_cons (EV_int (TL_nil ?_))))))))))))
  refine (count_octets_spec (n := n) O (c := b.size) (w := 2) (P := fun _ => True) (by decide) trivial).mono ?_ fun ax σ' z => absurd z.1 (by show ¬ 65536 ≤ b.size; omega)
  rintro r σ' ⟨rfl, _, hs⟩
  refine EV_local rfl (add_bb (by simp [be_length]; omega) ⟨rfl, hs⟩)
def goodPath (x : Str) : Prop := (∀ c ∈ x.cps.toList, 32 ≤ c ∧ c ≤ 126) ∧ x.cps.size < 256
def pathBytes (x : Str) : List UInt8 := be 1 x.cps.size ++ x.cps.toList.map fun c => c.toUInt8
theorem path_octets_spec (O : L1 C) {x : Str} (hz : x.cps.size ≤ 1000) {P : V → Prop} (hP : P (.tup [.int 0, .int 0])) :
    CALL C (n + 8) (.ref 153) [.str x] σ (fun r σ' => goodPath x ∧ r = .bytes (pathBytes x).toArray ∧ Ex [] σ σ') (fun ax σ' => ¬ goodPath x ∧ Flt [] σ P ax σ') := by
  refine CALL_def (names := ["path"]) O.ok (O.k (f := fun K => K.lookup 153) (by k_is)) (O.k (f := fun K => codeIn K _ _) (by k_is)) ?_ (by decide) (by decide) ?_
  · exact all1 fun _ => rfl
  intro L
  refine TS_cons (TS_For rfl (EV_local rfl ⟨_, _, σ, goes_str, fun _ _ e => e, trivial, ?_⟩))
  refine ForW_each (fun i ε σ' => ε.lookup ("path" : Str) = some (.str x) ∧ σ' = σ ∧ ∀ c ∈ x.cps.toList.take i, 32 ≤ c ∧ c ≤ 126) _ _ (fun i c hc ε σ' ⟨e1, e2, e3⟩ => ?_) (fun ε σ' ⟨e1, e2, e3⟩ => ?_) ⟨rfl, rfl, by simp⟩
  · subst e2
    refine TA_Name (SN_local ?_)
    refine TS_cons (TS_If (TT_Not (TT_Chain (EV_str (EV_local rfl (le_ss ⟨_, rfl, ?_⟩))))))
    rw [show (Str.ofString " ") = ⟨#[32]⟩ from rfl, strLt_one]
    have hm := List.mem_of_getElem? hc
    by_cases hg : 32 ≤ c ∧ c ≤ 126
    · rw [if_pos (by simp; omega)]
      refine EV_str (le_ss ⟨_, rfl, ?_⟩)
      rw [show (Str.ofString "~") = ⟨#[126]⟩ from rfl, strLt_one]
      rw [if_neg (by simp; omega)]
      refine TS_nil ?_
      show TS _ _ _ _ (execs [] _) _ _ _
      refine TS_nil ⟨trivial, e1, rfl, ?_⟩
      intro d hd
      rw [List.take_add_one, hc] at hd
      rcases List.mem_append.mp hd with hd | hd
      · exact e3 d hd
      · simp at hd; subst hd; exact hg
    · have bad : ∀ env' ε' (QS : Fl → Loc → Store → Prop) e1 e2 e3 e4 e5 e6, env'.kindOf "FileFault" = some .globalImplicit → env'.scope.kind = .function → env'.globals = mainGlobals →
          TS C (n + 7) env' ε' (execs [.Raise (some (.Call (.Name "FileFault" e1) [.Constant (.str e2) e3 e4] [] e5)) none e6] env') σ' QS (fun ax σ₂ => ¬ goodPath x ∧ Flt [] σ' P ax σ₂) := by
        intro env' ε' QS e1 e2 e3 e4 e5 e6 h1 h2 h3
        refine TS_cons (TS_Raise (n := n + 6) O.ok (gc O (TL_cons (EV_str (TL_nil ((fault_spec (n := n + 3) O (.inr ⟨rfl, rfl⟩)).mono ?_ fun _ _ z => z)))) (hk := h2) (hl := h1) (hg := h3)))
        rintro r σ₂ ⟨e, d, rfl, h1, h2, h3, rfl⟩
        exact raised O (S := []) (P := P) (σ₀ := σ') (X := fun ax σ₂ => ¬ goodPath x ∧ Flt [] σ' P ax σ₂) Ex.refl h1 h2 h3 hP h1 fun ax σ₂ z => ⟨fun g => hg (g.1 c hm), z⟩
      by_cases h1 : c < 32
      · rw [if_neg (by simp; omega)]
        exact bad _ _ _ _ _ _ _ _ _ rfl rfl rfl
      · rw [if_pos (by simp; omega)]
        refine EV_str (le_ss ⟨_, rfl, ?_⟩)
        rw [show (Str.ofString "~") = ⟨#[126]⟩ from rfl, strLt_one]
        rw [if_pos (by simp; omega)]
        exact bad _ _ _ _ _ _ _ _ _ rfl rfl rfl
  · subst e2
    have e3' : ∀ c ∈ x.cps.toList, 32 ≤ c ∧ c ≤ 126 := by rw [List.take_length] at e3; exact e3
    show TS _ _ _ _ (execs (_ :: _) _) _ _ _
    refine TS_cons (TS_Return (EV_BinOp (gc O (TL_cons (bc O (TL_cons (EV_local e1 (TL_nil (len_s (by show x.cps.size ≤ _; omega) (TL_cons (EV_int (TL_nil ?_))))))))))))
    refine (count_octets_spec (n := n + 1) O (c := x.cps.size) (w := 1) (P := P) (by decide) hP).mono ?_ fun ax σ' z => ⟨fun g => absurd g.2 (by have := z.1; omega), z.2⟩
    rintro r σ₂ ⟨rfl, h2, hs⟩
    refine EV_Method (EV_local e1 (meth_str PySem.F.slot_str_encode PySem.F.type_str_encode (CW_cons (TL_cons (EV_str (TL_nil ⟨Kp_builtin, encode_s (fun c hc => ?_) (by omega) ?_⟩))))))
    · have := e3' c (by simpa using hc); omega
    · refine add_bb (by simp [be_length]; omega) ⟨⟨e3', by omega⟩, ?_, hs⟩
      unfold pathBytes
      congr 1
      apply Array.ext'
      simp
end
end Mine
end
section
open PySem PySem.W PyProof.Rows PySem.Calls PySem.Spec
set_option Elab.async false
set_option maxRecDepth 100000
set_option maxHeartbeats 0
namespace Mine
section
variable {K β : Type} [DecidableEq K]
def stB (es : List (K × β)) (k : K) (x : β) : List (K × β) := if es.any (fun kv => kv.1 = k) then es.map (fun kv => if kv.1 = k then (kv.1, x) else kv) else es ++ [(k, x)]
def vlB (es : List (K × β)) (k : K) : Option β := (es.find? fun kv => kv.1 = k).map (·.2)
theorem stB_map {γ : Type} (f : β → γ) (es : List (K × β)) (k : K) (x : β) : stB (es.map fun p => (p.1, f p.2)) k (f x) = (stB es k x).map fun p => (p.1, f p.2) := by
  unfold stB
  have : ((es.map fun p => (p.1, f p.2)).any fun kv => decide (kv.1 = k)) = es.any fun kv => decide (kv.1 = k) := by rw [List.any_map]; rfl
  rw [this]
  split
  · rw [List.map_map, List.map_map]
    apply List.map_congr_left
    intro p _
    simp only [Function.comp_apply]
    split <;> rfl
  · simp
theorem vlB_map {γ : Type} (f : β → γ) (es : List (K × β)) (k : K) : vlB (es.map fun p => (p.1, f p.2)) k = (vlB es k).map f := by
  unfold vlB
  rw [List.find?_map]
  have : ((fun kv : K × γ => decide (kv.1 = k)) ∘ fun p : K × β => (p.1, f p.2)) = fun kv : K × β => decide (kv.1 = k) := rfl
  rw [this]
  cases List.find? (fun kv : K × β => decide (kv.1 = k)) es <;> rfl
theorem vlB_mem {es : List (K × β)} {k : K} : k ∈ es.map (·.1) → ∃ x, vlB es k = some x ∧ (k, x) ∈ es := by
  intro h
  induction es with
  | nil => cases h
  | cons p es ih =>
    unfold vlB at *
    rw [List.find?_cons]
    by_cases e : p.1 = k
    · exact ⟨p.2, by simp [e], by rw [← e]; exact .head _⟩
    · simp only [e, decide_false]
      rw [List.map_cons, List.mem_cons] at h
      obtain ⟨x, h1, h2⟩ := ih (h.resolve_left (Ne.symm e))
      exact ⟨x, h1, .tail _ h2⟩
theorem stB_length (es : List (K × β)) (k : K) (x : β) : (stB es k x).length ≤ es.length + 1 := by
  unfold stB; split <;> simp
end
inductive Cont where
  | seq (rows : List (Array UInt8))
  | rel (es : List (Int × Array UInt8))
abbrev Files := List (Str × (Str × Cont))
def CAt (σ : Store) (c : Addr) : Cont → Prop
  | .seq rows => σ c = some (.list (rows.map .bytes))
  | .rel es => ∃ ep, σ c = some (.dictI (es.map fun p => (p.1, .bytes p.2)) ep)
def FV (σ : Store) (v : V) (f : Str × Cont) : Prop := ∃ c, v = .tup [.str f.1, .obj c] ∧ CAt σ c f.2
inductive FS (σ : Store) : List (Str × V) → Files → Prop
  | nil : FS σ [] []
  | cons {p : Str} {v : V} {f : Str × Cont} {es fs} : FV σ v f → FS σ es fs → FS σ ((p, v) :: es) ((p, f) :: fs)
inductive SHx (σ : Store) (x D : Addr) (fs : Files) : Prop
  | mk (d : Addr) (es : List (Str × V)) (ep : Nat) (h1 : σ x = some (.inst 137 d)) (h2 : σ d = some (.ns [("files", .obj D)])) (h3 : σ D = some (.dictS es ep)) (h4 : FS σ es fs)
section
variable {σ σ' : Store} {S : List Addr}
theorem CAt.ex {c : Addr} (h : Ex S σ σ') (n : c ∉ S) : ∀ {k : Cont}, CAt σ c k → CAt σ' c k
  | .seq _, e => h _ _ e n
  | .rel _, ⟨ep, e⟩ => ⟨ep, h _ _ e n⟩
def Off (σ : Store) (c : Addr) : Prop := σ c = none ∨ (∃ es ep, σ c = some (.dictS es ep)) ∨ ∃ v fs, σ c = some (.ns (("octets", v) :: fs))
theorem CAt.ne {c : Addr} (h : Off σ c) : ∀ {k : Cont}, ¬ CAt σ c k
  | .seq _, e => by have e' : σ c = _ := e; rcases h with h | ⟨es, ep, h⟩ | ⟨v, fs, h⟩ <;> (rw [h] at e'; cases e')
  | .rel _, ⟨_, e⟩ => by have e' : σ c = _ := e; rcases h with h | ⟨es, ep, h⟩ | ⟨v, fs, h⟩ <;> (rw [h] at e'; cases e')
theorem FV.ex {v : V} {f : Str × Cont} (h : Ex S σ σ') (hS : ∀ c ∈ S, Off σ c) : FV σ v f → FV σ' v f
  | ⟨c, e, k⟩ => ⟨c, e, k.ex h fun q => k.ne (hS c q)⟩
theorem FS.ex (h : Ex S σ σ') (hS : ∀ c ∈ S, Off σ c) : ∀ {es : List (Str × V)} {fs : Files}, FS σ es fs → FS σ' es fs
  | _, _, .nil => .nil
  | _, _, .cons a b => .cons (a.ex h hS) (b.ex h hS)
theorem SHx.ex {x D : Addr} {fs : Files} (s : SHx σ x D fs) (h : Ex S σ σ') (hS : ∀ c ∈ S, c ≠ D ∧ Off σ c) : SHx σ' x D fs := by
  obtain ⟨d, es, ep, h1, h2, h3, h4⟩ := s
  refine ⟨d, es, ep, h _ _ h1 fun q => ?_, h _ _ h2 fun q => ?_, h _ _ h3 fun q => (hS _ q).1 rfl, h4.ex h fun c q => (hS c q).2⟩
  · rcases (hS _ q).2 with q | ⟨es, ep, q⟩ | ⟨v, fs, q⟩ <;> (rw [h1] at q; cases q)
  · rcases (hS _ q).2 with q | ⟨es, ep, q⟩ | ⟨v, fs, q⟩
    · rw [h2] at q; cases q
    · rw [h2] at q; cases q
    · rw [h2] at q
      injection q with q
      injection q with q
      injection q with q
      injection q with q _
      exact absurd q (by decide)
theorem SHx.ex0 {x D : Addr} {fs : Files} (s : SHx σ x D fs) (h : Ex [] σ σ') : SHx σ' x D fs := s.ex h (by simp)
theorem FS.keys : ∀ {es : List (Str × V)} {fs : Files}, FS σ es fs → es.map (·.1) = fs.map (·.1)
  | _, _, .nil => rfl
  | _, _, .cons _ b => by simp [b.keys]
theorem FS.length : ∀ {es : List (Str × V)} {fs : Files}, FS σ es fs → es.length = fs.length
  | _, _, .nil => rfl
  | _, _, .cons _ b => by simp [b.length]
theorem FS.value {p : Str} : ∀ {es : List (Str × V)} {fs : Files}, FS σ es fs → match vlB fs p with | some f => ∃ v, valueA es p = some v ∧ FV σ v f | none => valueA es p = none
  | _, _, .nil => rfl
  | _, _, .cons (p := q) (v := v) (f := f) (es := es) (fs := fs) a b => by
    have ih := b.value (p := p)
    unfold vlB valueA at *
    simp only [List.find?_cons]
    by_cases e : q = p
    · simp only [e, decide_true]; exact ⟨v, rfl, a⟩
    · simp only [e, decide_false]; exact ih
theorem FS.any {p : Str} : ∀ {es : List (Str × V)} {fs : Files}, FS σ es fs → (es.any fun kv => decide (kv.1 = p)) = fs.any fun kv => decide (kv.1 = p)
  | _, _, .nil => rfl
  | _, _, .cons a b => by simp [b.any]
theorem FS.mapp {p : Str} {v : V} {f : Str × Cont} (hv : FV σ v f) : ∀ {es : List (Str × V)} {fs : Files}, FS σ es fs → FS σ (es.map fun kv => if kv.1 = p then (kv.1, v) else kv) (fs.map fun kv => if kv.1 = p then (kv.1, f) else kv)
  | _, _, .nil => .nil
  | _, _, .cons (p := q) a b => by
    simp only [List.map_cons]
    by_cases e : q = p
    · simp only [e, if_true]; exact .cons hv (b.mapp hv)
    · simp only [e, if_false]; exact .cons a (b.mapp hv)
theorem FS.snoc {p : Str} {v : V} {f : Str × Cont} (hv : FV σ v f) : ∀ {es : List (Str × V)} {fs : Files}, FS σ es fs → FS σ (es ++ [(p, v)]) (fs ++ [(p, f)])
  | _, _, .nil => .cons hv .nil
  | _, _, .cons a b => .cons a (b.snoc hv)
theorem FS.put {p : Str} {v : V} {f : Str × Cont} (hv : FV σ v f) {es : List (Str × V)} {fs : Files} (h : FS σ es fs) : FS σ (storedA es p v) (stB fs p f) := by
  unfold storedA stB
  rw [h.any]
  split
  · exact h.mapp hv
  · exact h.snoc hv
end
section
variable {C : Cx} {σ : Store} {n : Nat} {env : Env} {ε : Loc} {Q : V → Store → Prop} {X : AX → Store → Prop} {QS : Fl → Loc → Store → Prop}
theorem files_at (O : L1 C) {x d : Addr} {D : Addr} {ex : Bool} (hx : σ x = some (.inst 137 d)) (hn : σ d = some (.ns [("files", .obj D)])) (h : Q (.obj D) σ) : OP1 C n env ε (fun v => getAttr v "files" ex) (.obj x) σ Q X :=
  attr_own O.ok hx hn (y := .obj D) rfl rfl (O.k (f := fun K => plainGet K 137 _) (by k_is)) (O.k (f := fun K => hasDictIn K 137) (by k_is)) (O.k (f := fun K => findIn K (.ref 137) _) (by k_is)) (O.k (f := fun K => noGet K _) (by k_is)) h
theorem sh_meth (O : L1 C) {x d : Addr} {D f : Addr} {nm : Str} {pl : Sem Bool} {QM : Value → List V → Store → Prop} (hx : σ x = some (.inst 137 d)) (hn : σ d = some (.ns [("files", .obj D)])) (h : QM (.ref f) [.obj x] σ)
    (hl : ([("files", V.obj D)] : List (Str × V)).lookup nm = none := by rfl) (h1 : plainGet (hd.heap_1 C.w.params) 137 nm = true := by k_is) (h2 : findIn (hd.heap_1 C.w.params) (.ref 137) nm = some (some (.ref f)) := by k_is)
    (h3 : isFn (hd.heap_1 C.w.params) (.ref f) = true := by k_is) : OPM C n env ε nm pl (.obj x) σ QM X :=
  meth_inst O.ok hx hn hl (O.k (f := fun K => plainGet K 137 nm) h1) (O.k (f := fun K => findIn K (.ref 137) nm) h2) (O.k (f := fun K => isFn K (.ref f)) h3) h
inductive PthQ (σ : Store) (fs : Files) (r : V) (σ' : Store) : Prop
  | mk (l : Addr) (h1 : r = .obj l) (h2 : σ l = none) (h3 : σ' l = some (.list ((sortS (fs.map (·.1))).map .str))) (h4 : Ex [] σ σ')
theorem paths_spec (O : L1 C) {x D : Addr} {fs : Files} (s : SHx σ x D fs) (hz : fs.length < 64) :
    CALL C (n + 3) (.ref 84) [.obj x] σ (PthQ σ fs) X := by
  obtain ⟨d, es, ep, h1, h2, h3, h4⟩ := s
  refine CALL_def (names := ["self"]) O.ok (O.k (f := fun K => K.lookup 84) (by k_is)) (O.k (f := fun K => codeIn K _ _) (by k_is)) ?_ (by decide) (by decide) ?_
  · exact all1 fun _ => rfl
  intro L
  refine TS_cons (TS_Return (bc O (TL_cons (EV_Attr (EV_local rfl (files_at O h1 h2 (TL_nil (sorted_dictS h3 (by rw [h4.length]; exact hz) ?_))))))))
  intro r hr
  refine ⟨r, rfl, hr, ?_, Ex.new hr⟩
  rw [upd_self, h4.keys]
end
end Mine
end
section
open PySem PySem.W PyProof.Rows PySem.Calls PySem.Spec
set_option Elab.async false
set_option maxRecDepth 100000
set_option maxHeartbeats 0
namespace Mine
section
variable {C : Cx} {σ : Store} {n : Nat} {env : Env} {ε : Loc} {Q : V → Store → Prop} {X : AX → Store → Prop} {QS : Fl → Loc → Store → Prop}
theorem kind_of_spec (O : L1 C) {x D : Addr} {fs : Files} {p : Str} (s : SHx σ x D fs) :
    CALL C (n + 2) (.ref 91) [.obj x, .str p] σ (fun r σ' => r = .str ((vlB fs p).elim "" (·.1)) ∧ σ' = σ) X := by
  obtain ⟨d, es, ep, h1, h2, h3, h4⟩ := s
  refine CALL_def (names := ["self", "path"]) O.ok (O.k (f := fun K => K.lookup 91) (by k_is)) (O.k (f := fun K => codeIn K _ _) (by k_is)) ?_ (by decide) (by decide) ?_
  · exact all2 fun _ _ => rfl
  intro L
  have hv := h4.value (p := p)
  refine TS_cons (TS_Return (EV_IfExp (TT_Compare (EV_local rfl (EV_Attr (EV_local rfl (files_at O h1 h2 (in_dictS h3 ⟨_, rfl, ?_⟩))))))))
  cases q : vlB fs p with
  | none =>
    rw [q] at hv
    rw [hv]
    exact EV_str ⟨rfl, rfl⟩
  | some f =>
    rw [q] at hv
    obtain ⟨v, e1, c, rfl, e2⟩ := hv
    rw [e1]
    exact EV_Sub (EV_Sub (EV_Attr (EV_local rfl (files_at O h1 h2 (EV_local rfl (sub_dictS h3 e1 (EV_int (sub_tup (j := 0) rfl rfl ⟨rfl, rfl⟩))))))))
theorem content_of_spec (O : L1 C) {x D : Addr} {fs : Files} {p : Str} {f : Str × Cont} (s : SHx σ x D fs) (hf : vlB fs p = some f) :
    CALL C (n + 2) (.ref 98) [.obj x, .str p] σ (fun r σ' => (∃ c, r = .obj c ∧ CAt σ c f.2) ∧ σ' = σ) X := by
  obtain ⟨d, es, ep, h1, h2, h3, h4⟩ := s
  refine CALL_def (names := ["self", "path"]) O.ok (O.k (f := fun K => K.lookup 98) (by k_is)) (O.k (f := fun K => codeIn K _ _) (by k_is)) ?_ (by decide) (by decide) ?_
  · exact all2 fun _ _ => rfl
  intro L
  have hv := h4.value (p := p)
  rw [hf] at hv
  obtain ⟨v, e1, c, rfl, e2⟩ := hv
  refine TS_cons (TS_If (TT_Compare (EV_local rfl (EV_Attr (EV_local rfl (files_at O h1 h2 (notin_dictS h3 ⟨_, rfl, ?_⟩)))))))
  rw [e1]
  refine TS_nil ?_
  show TS _ _ _ _ (execs (_ :: _) _) _ _ _
  exact TS_cons (TS_Return (EV_Sub (EV_Sub (EV_Attr (EV_local rfl (files_at O h1 h2 (EV_local rfl (sub_dictS h3 e1 (EV_int (sub_tup (j := 1) rfl rfl ⟨⟨c, rfl, e2⟩, rfl⟩)))))))) ))
def kinds : List Str := ["sequential", "relative", "indexed"]
def emptyC (k : Str) : Cont := if k = "relative" then .rel [] else .seq []
theorem EV_kinds (O : L1 C) {pos : Pos} (h : Q (.tup (kinds.map .str)) σ) (hk : env.scope.kind = .function := by rfl) (hl : env.kindOf "KINDS" = some .globalImplicit := by rfl) (hg : env.globals = mainGlobals := by rfl) : EV C n env ε (.Name "KINDS" pos) σ Q X := by
  refine EV_global (y := .tup (kinds.map .str)) O.ok (O.k (f := fun K => nsIn K mainGlobals "KINDS") (by k_is)) (fun h K => ?_) h hk hl hg
  exact ⟨_, _, rfl, ⟨_, K _ _ (O.k (f := fun K => K.lookup _) (by k_is)), rfl, _, rfl⟩, ⟨_, _, rfl, ⟨_, rfl⟩, _, _, rfl, ⟨_, rfl⟩, _, _, rfl, ⟨_, rfl⟩, rfl⟩⟩
end
end Mine
end
section
open PySem PySem.W PyProof.Rows PySem.Calls PySem.Spec
set_option Elab.async false
set_option maxRecDepth 100000
set_option maxHeartbeats 0
namespace Mine
section
variable {C : Cx} {σ : Store} {n : Nat} {env : Env} {ε : Loc} {Q : V → Store → Prop} {X : AX → Store → Prop} {QS : Fl → Loc → Store → Prop}
theorem begin_spec (O : L1 C) {x D : Addr} {fs : Files} {p k : Str} (s : SHx σ x D fs) (hz : fs.length ≤ 1000) (hkz : k.length ≤ 1000) {P : V → Prop} (hP : P (.tup [.int 0, .int 0])) :
    CALL C (n + 6) (.ref 105) [.obj x, .str p, .str k] σ (fun r σ' => k ∈ kinds ∧ ∃ c, r = .obj c ∧ σ c = none ∧ CAt σ' c (emptyC k) ∧ Ex [D] σ σ' ∧
      ∀ σ'' cont, Ex [c] σ' σ'' → CAt σ'' c cont → SHx σ'' x D (stB fs p (k, cont))) (fun ax σ' => k ∉ kinds ∧ Flt [] σ P ax σ') := by
  obtain ⟨d, es, ep, h1, h2, h3, h4⟩ := s
  refine CALL_def (names := ["self", "path", "kind"]) O.ok (O.k (f := fun K => K.lookup 105) (by k_is)) (O.k (f := fun K => codeIn K _ _) (by k_is)) ?_ (by decide) (by decide) ?_
  · exact all3 fun _ _ _ => rfl
  intro L
  refine TS_cons (TS_If (TT_Compare (EV_local rfl (EV_kinds O (notin_strs ⟨_, rfl, ?_⟩)))))
  have hany : kinds.any (· == k) = decide (k ∈ kinds) := by
    rw [Bool.eq_iff_iff, List.any_eq_true]
    simp
  rw [hany]
  by_cases hk : k ∈ kinds
  · rw [if_neg (by simp [hk])]
    refine TS_nil ?_
    show TS _ _ _ _ (execs (_ :: _) _) _ _ _
    refine TS_cons (TS_Assign (TV.mono (Q := fun y σ₁ => ∃ c, y = .obj c ∧ σ c = none ∧ Ex [] σ σ₁ ∧ CAt σ₁ c (emptyC k)) ?_ (fun y σ₁ z => ?_) fun _ _ z => z))
    · refine EV_IfExp (TT_Compare (EV_local rfl (EV_str (eq_ss ⟨_, rfl, ?_⟩))))
      unfold emptyC
      by_cases hr : k = "relative"
      · rw [if_pos (by simpa using hr), if_pos hr]
        exact EV_Dict0I O.ok fun c hc => ⟨c, rfl, hc, Ex.new hc, 0, upd_self _ _ _⟩
      · rw [if_neg (by simpa using hr), if_neg hr]
        exact EV_List (TL_nil ⟨by simp, fun c hc => ⟨c, rfl, hc, Ex.new hc, upd_self _ _ _⟩⟩)
    obtain ⟨c, rfl, hc, hs, hca⟩ := z
    have g1 := hs.get h1; have g2 := hs.get h2; have g3 := hs.get h3
    refine SN_local ?_
    show TS _ _ _ _ (execs (_ :: _) _) _ _ _
    refine TS_cons (TS_SetSub (EV_Tuple (TL_cons (EV_local rfl (TL_cons (EV_local rfl (TL_nil ⟨by simp, ?_⟩)))))))
    refine EV_Attr (EV_local rfl (files_at O g1 g2 (EV_local rfl (set_dictS g3 (by rw [h4.length]; omega) fun ep' => ?_))))
    have hcD : c ≠ D := fun q => by rw [q, h3] at hc; cases hc
    have hdD : d ≠ D := fun q => by rw [q, h3] at h2; cases h2
    have hxD : x ≠ D := fun q => by rw [q, h3] at h1; cases h1
    show TS _ _ _ _ (execs (_ :: _) _) _ _ _
    have hE : Ex [D] σ (upd σ₁ D (.dictS (storedA es p (.tup [.str k, .obj c])) ep')) := (hs.mono (by simp)).trans (Ex.set (by simp))
    refine TS_cons (TS_Return (EV_local rfl ⟨hk, c, rfl, hc, ?_, hE, fun σ'' cont hs'' hc'' => ?_⟩))
    · exact hca.ex (Ex.set (S := [D]) (by simp)) (by simpa using hcD)
    · have hcn : ∀ a o, σ a = some o → a ∉ [c] := fun a o e q => by
        rw [List.mem_singleton] at q; rw [q, hc] at e; cases e
      refine ⟨d, _, ep', hs'' _ _ (by rw [upd_ne _ _ hxD]; exact g1) (hcn _ _ h1), hs'' _ _ (by rw [upd_ne _ _ hdD]; exact g2) (hcn _ _ h2), hs'' _ _ (upd_self _ _ _) (hcn _ _ h3), FS.put (f := (k, cont)) ⟨c, rfl, hc''⟩ ?_⟩
      refine h4.ex (S := [D, c]) ((hE.mono (by simp)).trans (hs''.mono (by simp))) ?_
      intro a ha
      simp only [List.mem_cons, List.not_mem_nil, or_false] at ha
      rcases ha with rfl | rfl
      · exact .inr (.inl ⟨_, _, h3⟩)
      · exact .inl hc
  · rw [if_pos (by simp [hk])]
    refine TS_cons (TS_Raise (n := n + 4) O.ok (gc O (TL_cons (EV_BinOp (EV_str (EV_local rfl (add_ss ?_ (TL_nil ((fault_spec (n := n + 1) O (.inr ⟨rfl, rfl⟩)).mono ?_ fun _ _ z => z)))))))))
    · have : (Str.ofString "no kind of files: ").length = 18 := by decide
      omega
    rintro r σ₂ ⟨e, d', rfl, e1, e2, e3, rfl⟩
    exact raised O (S := []) (P := P) (σ₀ := σ) (X := fun ax σ₂ => k ∉ kinds ∧ Flt [] σ P ax σ₂) Ex.refl e1 e2 e3 hP e1 fun ax σ₂ z => ⟨hk, z⟩
end
end Mine
end
section
open PySem PySem.W PyProof.Rows PySem.Calls PySem.Spec
set_option Elab.async false
set_option maxRecDepth 100000
set_option maxHeartbeats 0
namespace Mine
def RowsV (σ : Store) (v : V) (items : List V) : Prop := (∃ l, v = .obj l ∧ σ l = some (.list items)) ∨ v = .tup items
theorem RowsV.ex {S : List Addr} {σ σ' : Store} {v : V} {items : List V} (r : RowsV σ v items) (h : Ex S σ σ') (hS : ∀ a ∈ S, Off σ a) : RowsV σ' v items := by
  rcases r with ⟨l, rfl, e⟩ | rfl
  · exact .inl ⟨l, rfl, h _ _ e fun q => by rcases hS _ q with z | ⟨_, _, z⟩ | ⟨_, _, z⟩ <;> (rw [e] at z; cases z)⟩
  · exact .inr rfl
theorem RowsV.goes {C : Cx} {σ : Store} {v : V} {items : List V} (r : RowsV σ v items) : ∃ Inv, Goes C v items Inv σ ∧ ∀ σ', RowsV σ' v items → Inv σ' := by
  rcases r with ⟨l, rfl, e⟩ | rfl
  · exact ⟨_, goes_list e, fun σ' z => by
      rcases z with ⟨l', q, e'⟩ | q
      · cases q; exact e'
      · cases q⟩
  · exact ⟨_, goes_tup, fun _ _ => trivial⟩
theorem Ex.fresh {S : List Addr} {σ σ₁ σ' : Store} {c : Addr} (h : Ex S σ σ₁) (h' : Ex [c] σ₁ σ') (hc : σ c = none) : Ex S σ σ' := fun a o e q =>
  h' a o (h a o e q) fun z => by rw [List.mem_singleton] at z; rw [z, hc] at e; cases e
section
variable {C : Cx} {σ : Store} {n : Nat} {env : Env} {ε : Loc} {Q : V → Store → Prop} {X : AX → Store → Prop} {QS : Fl → Loc → Store → Prop}
inductive LoI (c : Addr) (k : Str) (rows : List (Array UInt8)) (σ₁ : Store) (i : Nat) (ε : Loc) (σ' : Store) : Prop
  | mk (e1 : ε.lookup ("kind" : Str) = some (.str k)) (e2 : ε.lookup ("content" : Str) = some (.obj c)) (e3 : Ex [c] σ₁ σ') (e4 : σ' c = some (.list ((rows.take i).map .bytes)))
theorem lay_other_spec (O : L1 C) {x D : Addr} {fs : Files} {p k : Str} {rv : V} {rows : List (Array UInt8)} (s : SHx σ x D fs) (hz : fs.length ≤ 1000) (hkz : k.length ≤ 1000) (hr : RowsV σ rv (rows.map .bytes)) (hrz : rows.length ≤ 1000) (hk : k ≠ "relative") {P : V → Prop} (hP : P (.tup [.int 0, .int 0])) :
    CALL C (n + 8) (.ref 110) [.obj x, .str p, .str k, rv] σ (fun r σ' => k ∈ kinds ∧ r = .none ∧ SHx σ' x D (stB fs p (k, .seq rows)) ∧ Ex [D] σ σ') (fun ax σ' => k ∉ kinds ∧ Flt [] σ P ax σ') := by
  have s0 := s
  obtain ⟨d, es, ep, h1, h2, h3, h4⟩ := s
  refine CALL_def (names := ["self", "path", "kind", "rows"]) O.ok (O.k (f := fun K => K.lookup 110) (by k_is)) (O.k (f := fun K => codeIn K _ _) (by k_is)) ?_ (by decide) (by decide) ?_
  · exact all4 fun _ _ _ _ => rfl
  intro L
  refine TS_cons (TS_If (TT_BoolOp (TT_And (TT_Compare (EV_local rfl (EV_str (eq_ss ⟨_, rfl, ?_⟩)))))))
  rw [if_neg (by simpa using hk)]
  refine TS_nil ?_
  show TS _ _ _ _ (execs (_ :: _) _) _ _ _
  refine TS_cons (TS_Assign (EV_Method (EV_local rfl (sh_meth O h1 h2 (CW_cons (TL_cons (EV_local rfl (TL_cons (EV_local rfl (TL_nil ⟨Kp_K O.ok (O.k (f := fun K => keepIn K _) (by k_is)), OPL_call ((begin_spec (n := n + 1) O s0 hz hkz hP).mono ?_ fun _ _ z => z)⟩))))))))))
  rintro r σ₁ ⟨hkk, c, rfl, hc, hca, hE, hfin⟩
  refine SN_local ?_
  show TS _ _ _ _ (execs (_ :: _) _) _ _ _
  have hOff : ∀ a ∈ [D], Off σ a := by simp; exact .inr (.inl ⟨_, _, h3⟩)
  have hca' : σ₁ c = some (.list []) := by unfold emptyC at hca; rw [if_neg hk] at hca; exact hca
  obtain ⟨Inv, hg, hi⟩ := (hr.ex hE hOff).goes (C := C)
  have hr1 := hr.ex hE hOff
  refine TS_cons (TS_For rfl (EV_local rfl ⟨_, _, σ₁, hg, fun _ _ e => e, hg.1, ?_⟩))
  have hcn : ∀ a ∈ [D, c], Off σ a := by
    intro a ha
    simp only [List.mem_cons, List.not_mem_nil, or_false] at ha
    rcases ha with rfl | rfl
    · exact .inr (.inl ⟨_, _, h3⟩)
    · exact .inl hc
  refine ForW_each (LoI c k rows σ₁) _ _ (fun i b hb ε σ' ⟨e1, e2, e3, e4⟩ => ?_) (fun ε σ' ⟨e1, e2, e3, e4⟩ => ?_) ⟨rfl, rfl, Ex.refl, by simpa using hca'⟩
  · refine TA_Name (SN_local ?_)
    refine TS_cons (TS_If (TT_Compare (EV_local e1 (EV_str (eq_ss ⟨_, rfl, ?_⟩)))))
    rw [if_neg (by simpa using hk)]
    refine TS_cons (TS_Expr (EV_Method (EV_local e2 (meth_list slot_list_append type_list_append e4 (CW_cons (TL_cons ?_))))))
    refine bc O (TL_cons (EV_local rfl (TL_nil (bytes_bytes (TL_nil ⟨Kp_builtin, append_l e4 (by simp; omega) ?_⟩)))))
    refine TS_nil ?_
    have e5 : Ex [c] σ₁ (upd σ' c (.list ((rows.take i).map .bytes ++ [.bytes b]))) := e3.trans (Ex.set (by simp))
    refine TS_nil ⟨hi _ (hr.ex ((hE.mono (by simp)).trans (e5.mono (by simp))) hcn), e1, e2, e5, ?_⟩
    rw [upd_self, List.take_add_one, hb]
    simp
  · refine TS_nil ⟨hkk, rfl, hfin σ' (.seq rows) e3 ?_, ?_⟩
    · rw [List.take_length] at e4; exact e4
    · exact Ex.fresh hE e3 hc
end
end Mine
end
section
open PySem PySem.W PyProof.Rows PySem.Calls PySem.Spec
set_option Elab.async false
set_option maxRecDepth 100000
set_option maxHeartbeats 0
namespace Mine
abbrev rowV (r : Int × Array UInt8) : V := .tup [.int r.1, .bytes r.2]
def relOf (rows : List (Int × Array UInt8)) : List (Int × Array UInt8) := rows.foldl (fun es r => stB es r.1 r.2) []
theorem relOf_take {rows : List (Int × Array UInt8)} {i : Nat} {r : Int × Array UInt8} (h : rows[i]? = some r) : relOf (rows.take (i + 1)) = stB (relOf (rows.take i)) r.1 r.2 := by
  unfold relOf
  rw [List.take_add_one, h, List.foldl_append]; rfl
theorem relOf_length (rows : List (Int × Array UInt8)) : (relOf rows).length ≤ rows.length := by
  have : ∀ (rows : List (Int × Array UInt8)) es, (rows.foldl (fun es r => stB es r.1 r.2) es).length ≤ es.length + rows.length := by
    intro rows
    induction rows with
    | nil => intro es; simp
    | cons r rows ih =>
      intro es
      have := ih (stB es r.1 r.2)
      have h2 := stB_length es r.1 r.2
      simp only [List.foldl_cons, List.length_cons] at *
      omega
  have := this rows []
  simpa [relOf] using this
section
variable {C : Cx} {σ : Store} {n : Nat} {env : Env} {ε : Loc} {Q : V → Store → Prop} {X : AX → Store → Prop} {QS : Fl → Loc → Store → Prop}
theorem storedA_rel (es : List (Int × Array UInt8)) (k : Int) (b : Array UInt8) : storedA (es.map fun p => (p.1, V.bytes p.2)) k (.bytes b) = (stB es k b).map fun p => (p.1, V.bytes p.2) := stB_map V.bytes es k b
inductive LrI (c : Addr) (rows : List (Int × Array UInt8)) (σ₁ : Store) (i : Nat) (ε : Loc) (σ' : Store) : Prop
  | mk (e1 : ε.lookup ("kind" : Str) = some (.str "relative")) (e2 : ε.lookup ("content" : Str) = some (.obj c)) (e3 : Ex [c] σ₁ σ') (e4 : ∃ ep, σ' c = some (.dictI ((relOf (rows.take i)).map fun p => (p.1, V.bytes p.2)) ep))
theorem lay_rel_spec (O : L1 C) {x D : Addr} {fs : Files} {p : Str} {rv : V} {rows : List (Int × Array UInt8)} (s : SHx σ x D fs) (hz : fs.length ≤ 1000) (hr : RowsV σ rv (rows.map rowV)) (hrz : rows.length ≤ 1000) {P : V → Prop} (hP : P (.tup [.int 0, .int 0])) :
    CALL C (n + 8) (.ref 110) [.obj x, .str p, .str "relative", rv] σ (fun r σ' => (∀ r ∈ rows, 1 ≤ r.1) ∧ r = .none ∧ SHx σ' x D (stB fs p ("relative", .rel (relOf rows))) ∧ Ex [D] σ σ') (fun ax σ' => (¬ ∀ r ∈ rows, 1 ≤ r.1) ∧ Flt [] σ P ax σ') := by
  have s0 := s
  obtain ⟨d, es, ep, h1, h2, h3, h4⟩ := s
  refine CALL_def (names := ["self", "path", "kind", "rows"]) O.ok (O.k (f := fun K => K.lookup 110) (by k_is)) (O.k (f := fun K => codeIn K _ _) (by k_is)) ?_ (by decide) (by decide) ?_
  · exact all4 fun _ _ _ _ => rfl
  intro L
  obtain ⟨Inv, hg, hi⟩ := hr.goes (C := C)
  refine TS_cons (TS_If (TT_BoolOp (TT_And (TT_Compare (EV_local rfl (EV_str (eq_ss ⟨_, rfl, ?_⟩)))))))
  rw [if_pos (by simp)]
  refine TT_And (TT_Compare (EV_ListComp (IT_val (EV_local rfl ⟨_, Inv, hg, by simp; omega, fun Cl => ?_⟩))))
  refine CmpW_filter (fun σ' => σ' = σ) rowV rowV (fun r => decide (r.1 < 1)) (fun σ' e => e ▸ hg.1) _ _ _ _ rfl (fun r hr ε σ' e => ?_) (fun σ' e => ?_)
  · subst e
    refine TA_Name (SN_local (TT_tests_one (TT_Compare (EV_Sub (EV_local rfl (EV_int (sub_tup (j := 0) rfl rfl (EV_int (lt_ii ⟨_, rfl, ?_⟩)))))))))
    refine ⟨rfl, ?_⟩
    split
    · exact EV_local rfl ⟨rfl, rfl⟩
    · rfl
  subst e
  intro l hl
  refine EV_List (TL_nil ⟨by simp, fun l' hl' => ?_⟩)
  have hll : l' ≠ l := fun q => by rw [q, upd_self] at hl'; cases hl'
  refine ne_l0 (l := List.map rowV (List.filter (fun r => decide (r.1 < 1)) rows)) (by rw [upd_ne _ _ (Ne.symm hll), upd_self]; rfl) (upd_self _ _ _) ⟨_, rfl, ?_⟩
  have hl2 : σ' l' = none := by rw [upd_ne _ _ hll] at hl'; exact hl'
  have hs : Ex [] σ' (upd (upd σ' l (.list ([] ++ List.map rowV (List.filter (fun r => decide (r.1 < 1)) rows)))) l' (.list [])) := (Ex.new hl).trans (Ex.new hl')
  generalize hσ₀ : upd (upd σ' l (.list ([] ++ List.map rowV (List.filter (fun r => decide (r.1 < 1)) rows)))) l' (.list []) = σ₀ at hs ⊢
  by_cases hgood : ∀ r ∈ rows, 1 ≤ r.1
  · have hf : List.filter (fun r : Int × Array UInt8 => decide (r.1 < 1)) rows = [] := by
      rw [List.filter_eq_nil_iff]
      intro r hr'
      have := hgood r hr'
      simp; omega
    rw [hf, if_neg (by simp)]
    refine TS_nil ?_
    show TS _ _ _ _ (execs (_ :: _) _) _ _ _
    have g1 := hs.get h1; have g2 := hs.get h2; have g3 := hs.get h3
    have s1 : SHx σ₀ x D fs := s0.ex0 hs
    refine TS_cons (TS_Assign (EV_Method (EV_local rfl (sh_meth O g1 g2 (CW_cons (TL_cons (EV_local rfl (TL_cons (EV_local rfl (TL_nil ⟨Kp_K O.ok (O.k (f := fun K => keepIn K _) (by k_is)), OPL_call ((begin_spec (n := n + 1) O s1 hz (by decide) hP).mono ?_ fun ax σ' z => absurd (by decide) z.1)⟩))))))))))
    rintro r σ₁ ⟨hkk, c, rfl, hc, hca, hE, hfin⟩
    refine SN_local ?_
    show TS _ _ _ _ (execs (_ :: _) _) _ _ _
    obtain ⟨ep0, hca'⟩ : ∃ ep, σ₁ c = some (.dictI [] ep) := by unfold emptyC at hca; rw [if_pos rfl] at hca; exact hca
    have hcn : ∀ a ∈ [D, c], Off σ₀ a := by
      intro a ha
      simp only [List.mem_cons, List.not_mem_nil, or_false] at ha
      rcases ha with rfl | rfl
      · exact .inr (.inl ⟨_, _, g3⟩)
      · exact .inl hc
    have hr0 : RowsV σ₀ rv (rows.map rowV) := hr.ex hs (by simp)
    have hr1 : RowsV σ₁ rv (rows.map rowV) := hr0.ex hE (fun a ha => hcn a (by simp at ha; simp [ha]))
    obtain ⟨Inv1, hg1, hi1⟩ := hr1.goes (C := C)
    refine TS_cons (TS_For rfl (EV_local rfl ⟨_, _, σ₁, hg1, fun _ _ e => e, hg1.1, ?_⟩))
    refine ForW_each (LrI c rows σ₁) _ _ (fun i b hb ε σ' ⟨e1, e2, e3, ep1, e4⟩ => ?_) (fun ε σ' ⟨e1, e2, e3, e4⟩ => ?_) ⟨rfl, rfl, Ex.refl, ep0, by simpa [relOf] using hca'⟩
    · refine TA_Name (SN_local ?_)
      refine TS_cons (TS_If (TT_Compare (EV_local e1 (EV_str (eq_ss ⟨_, rfl, ?_⟩)))))
      rw [if_pos (by simp)]
      refine TS_cons (TS_SetSub (bc O (TL_cons (EV_Sub (EV_local rfl (EV_int (sub_tup (j := 1) rfl rfl (TL_nil (bytes_bytes ?_)))))))))
      have hlen := relOf_length (rows.take i)
      have hlen2 : (rows.take i).length ≤ rows.length := by rw [List.length_take]; omega
      refine EV_local e2 (EV_Sub (EV_local rfl (EV_int (sub_tup (j := 0) rfl rfl (set_dictI e4 (by simp; omega) fun ep2 => ?_)))))
      refine TS_nil ?_
      have e5 : Ex [c] σ₁ (upd σ' c (.dictI (storedA ((relOf (rows.take i)).map fun p => (p.1, V.bytes p.2)) b.1 (.bytes b.2)) ep2)) := e3.trans (Ex.set (by simp))
      refine TS_nil ⟨hi1 _ (hr0.ex ((hE.mono (by simp)).trans (e5.mono (by simp))) hcn), e1, e2, e5, ep2, ?_⟩
      rw [upd_self, storedA_rel, relOf_take hb]
    · obtain ⟨ep3, e4⟩ := e4
      refine TS_nil ⟨hgood, rfl, hfin σ' (.rel (relOf rows)) e3 ⟨ep3, ?_⟩, ?_⟩
      · rw [List.take_length] at e4; exact e4
      · exact (hs.mono (by simp)).trans (Ex.fresh hE e3 hc)
  · have hf : List.filter (fun r : Int × Array UInt8 => decide (r.1 < 1)) rows ≠ [] := by
      intro q
      rw [List.filter_eq_nil_iff] at q
      exact hgood fun r hr' => by have := q r hr'; simp at this; omega
    rw [if_pos (by simpa using hf)]
    refine TT_And_nil ?_
    rw [if_pos rfl]
    refine TS_cons (TS_Raise (n := n + 6) O.ok (gc O (TL_cons (EV_str (TL_nil ((fault_spec (n := n + 3) O (.inr ⟨rfl, rfl⟩)).mono ?_ fun _ _ z => z))))))
    rintro r σ₂ ⟨e, d', rfl, e1, e2, e3, rfl⟩
    exact raised O (S := []) (P := P) (σ₀ := σ') (X := fun ax σ₂ => (¬ ∀ r ∈ rows, 1 ≤ r.1) ∧ Flt [] σ' P ax σ₂) hs e1 e2 e3 hP (hs.gone e1) fun ax σ₂ z => ⟨hgood, z⟩
end
end Mine
end
section
open PySem PySem.W PyProof.Rows PySem.Calls PySem.Spec
set_option Elab.async false
set_option maxRecDepth 100000
set_option maxHeartbeats 0
namespace Mine
def WF (f : Str × Cont) : Prop := f.1 ∈ kinds ∧ match f.2 with
  | .seq rows => f.1 ≠ "relative" ∧ rows.length ≤ 200 ∧ ∀ b ∈ rows, b.size ≤ 200
  | .rel es => f.1 = "relative" ∧ es.length < 64 ∧ ∀ p ∈ es, 1 ≤ p.1 ∧ p.2.size ≤ 200
def tellRows : Cont → List V
  | .seq rows => rows.map .bytes
  | .rel es => (sortI (es.map (·.1))).map fun k => .tup [.int k, .bytes ((vlB es k).getD #[])]
section
variable {C : Cx} {σ : Store} {n : Nat} {env : Env} {ε : Loc} {Q : V → Store → Prop} {X : AX → Store → Prop} {QS : Fl → Loc → Store → Prop}
theorem valueA_rel (es : List (Int × Array UInt8)) (k : Int) : valueA (es.map fun p => (p.1, V.bytes p.2)) k = (vlB es k).map .bytes := vlB_map V.bytes es k
theorem rows_of_spec (O : L1 C) {x D : Addr} {fs : Files} {p : Str} {f : Str × Cont} (s : SHx σ x D fs) (hf : vlB fs p = some f) (hw : WF f) :
    CALL C (n + 5) (.ref 122) [.obj x, .str p] σ (fun r σ' => r = .tup (tellRows f.2) ∧ Ex [] σ σ') X := by
  have s0 := s
  obtain ⟨d, es, ep, h1, h2, h3, h4⟩ := s
  refine CALL_cells (names := ["self", "path"]) O.ok (O.k (f := fun K => K.lookup 122) (by k_is)) (O.k (f := fun K => codeIn K _ _) (by k_is)) ?_ (by decide) (by walk_at "hk") (by decide) (by decide) ?_
  · exact all2 fun _ _ => rfl
  intro L hL
  show TS C (n + 4) _ [("self", .obj x), ("path", .str p)] _ (upd σ (L + 1) (.cell none)) _ _
  have hL1 : σ (L + 1) = none := hL _ (Nat.le_succ _)
  have hs : Ex [] σ (upd σ (L + 1) (.cell none)) := Ex.new hL1
  have g1 := hs.get h1; have g2 := hs.get h2
  refine TS_cons (TS_Assign (EV_Method (EV_local rfl (sh_meth O g1 g2 (CW_cons (TL_cons (EV_local rfl (TL_nil ⟨Kp_K O.ok (O.k (f := fun K => keepIn K _) (by k_is)), OPL_call ((content_of_spec (n := n + 2) O (s0.ex0 hs) hf).mono ?_ fun _ _ z => z)⟩))))))))
  rintro r σ₁ ⟨⟨c, rfl, hc⟩, rfl⟩
  refine SN_cell rfl (upd_self _ _ _) ?_
  have e0 : upd (upd σ (L + 1) (.cell none)) (L + 1) (.cell (some (.obj c))) = upd σ (L + 1) (.cell (some (.obj c))) := by
    funext b; by_cases hb : b = L + 1 <;> simp [upd, hb]
  rw [e0]
  have hs1 : Ex [] σ (upd σ (L + 1) (.cell (some (.obj c)))) := Ex.new hL1
  have hcL : c ≠ L + 1 := fun q => by
    subst q
    cases hf2 : f.2 with
    | seq rows => rw [hf2] at hc; have e : _ = _ := hc; rw [upd_self] at e; cases e
    | rel es => rw [hf2] at hc; obtain ⟨_, e⟩ := hc; rw [upd_self] at e; cases e
  have hc1 : CAt (upd σ (L + 1) (.cell (some (.obj c)))) c f.2 := by
    cases hf2 : f.2 with
    | seq rows => rw [hf2] at hc; have e : _ = _ := hc; rw [upd_ne _ _ hcL] at e; show _ = _; rw [upd_ne _ _ hcL]; exact e
    | rel es => rw [hf2] at hc; obtain ⟨ep, e⟩ := hc; rw [upd_ne _ _ hcL] at e; refine ⟨ep, ?_⟩; rw [upd_ne _ _ hcL]; exact e
  have g1' := hs1.get h1; have g2' := hs1.get h2
  show TS _ _ _ _ (execs (_ :: _) _) _ _ _
  refine TS_cons (TS_If (TT_Compare (EV_Method (EV_local rfl (sh_meth O g1' g2' (CW_cons (TL_cons (EV_local rfl (TL_nil ⟨Kp_K O.ok (O.k (f := fun K => keepIn K _) (by k_is)), OPL_call ((kind_of_spec (n := n + 2) O (s0.ex0 hs1)).mono ?_ fun _ _ z => z)⟩)))))))))
  rintro r σ₂ ⟨rfl, rfl⟩
  rw [hf]
  refine EV_str (eq_ss ⟨_, rfl, ?_⟩)
  obtain ⟨fk, fc⟩ := f
  cases fc with
  | seq rows =>
    obtain ⟨wk, w1, w2, w3⟩ := hw
    rw [if_neg (by show ¬ decide _ = true; rw [decide_eq_true_eq]; exact w1)]
    refine TS_nil ?_
    show TS _ _ _ _ (execs (_ :: _) _) _ _ _
    refine TS_cons (TS_Return (bc O (TL_cons (EV_cell rfl (upd_self _ _ _) (TL_nil (tuple_list hc1 (by simp; omega) ⟨rfl, hs1⟩))))))
  | rel es =>
    obtain ⟨wk, w1, w2, w3⟩ := hw
    obtain ⟨ep2, hc1⟩ := hc1
    rw [if_pos (by show decide _ = true; rw [decide_eq_true_eq]; exact w1)]
    refine TS_cons (TS_Return (bc O (TL_cons (EV_ListComp (IT_val (bc O (TL_cons (EV_cell rfl (upd_self _ _ _) (TL_nil (sorted_dictI (n := n + 3) hc1 (by simpa using w2) ?_))))))))))
    intro l hl
    have hkeys : (es.map fun p => (p.1, V.bytes p.2)).map (·.1) = es.map (·.1) := by rw [List.map_map]; rfl
    rw [hkeys]
    refine ⟨_, _, goes_list (upd_self _ _ _), ?_, fun Cl => ?_⟩
    · rw [List.length_map, (sortI_perm _).length_eq]; simp; omega
    have hlc : c ≠ l := fun q => by rw [← q, hc1] at hl; cases hl
    have hlL : L + 1 ≠ l := fun q => by rw [← q, upd_self] at hl; cases hl
    refine CmpW_each (fun σ' => σ' = upd (upd σ (L + 1) (.cell (some (.obj c)))) l (.list ((sortI (es.map (·.1))).map .int))) _ (fun k => .tup [.int k, .bytes ((vlB es k).getD #[])]) (fun σ' e => by rw [e]; exact upd_self _ _ _) _ _ _ _ rfl (fun k hk ε σ' e => ?_) (fun σ' e => ?_)
    · subst e
      obtain ⟨b, hb, _⟩ := vlB_mem ((sortI_perm _).mem_iff.mp hk)
      refine TA_Name (SN_local (TT_tests_nil ⟨rfl, ?_⟩))
      refine EV_Tuple (TL_cons (EV_local rfl (TL_cons (EV_Sub (EV_cell rfl (by rw [upd_ne _ _ hlL, upd_self]) (EV_local rfl (sub_dictI (x := .bytes b) (by rw [upd_ne _ _ hlc]; exact hc1) (by rw [valueA_rel, hb]; rfl) (TL_nil ⟨by simp, ?_, rfl⟩))))))))
      rw [hb]; rfl
    · subst e
      intro D' hD'
      refine TL_nil (tuple_list (upd_self _ _ _) ?_ ⟨rfl, (hs1.trans (Ex.new hl)).trans (Ex.new hD')⟩)
      rw [List.nil_append, List.length_map, (sortI_perm _).length_eq]; simp; omega
end
end Mine
end
section
open PySem PySem.W PyProof.Rows PySem.Calls PySem.Spec
set_option Elab.async false
set_option maxRecDepth 100000
set_option maxHeartbeats 0
namespace Mine
def fileOf (fs : Files) (p : Str) : Str × Cont := (vlB fs p).getD ("", .seq [])
def pathsOf (fs : Files) : List Str := sortS (fs.map (·.1))
def told (fs : Files) : List V := (pathsOf fs).map fun p => .tup [.str p, .str (fileOf fs p).1, .tup (tellRows (fileOf fs p).2)]
def WFs (fs : Files) : Prop := fs.length < 64 ∧ ∀ p ∈ fs, WF p.2 ∧ p.1.cps.size ≤ 1000
theorem file_of {fs : Files} (w : WFs fs) {p : Str} (h : p ∈ pathsOf fs) : vlB fs p = some (fileOf fs p) ∧ WF (fileOf fs p) ∧ p.cps.size ≤ 1000 := by
  obtain ⟨f, e, m⟩ := vlB_mem ((sortS_perm _).mem_iff.mp h)
  have : fileOf fs p = f := by unfold fileOf; rw [e]; rfl
  rw [this]
  exact ⟨e, w.2 _ m⟩
section
variable {C : Cx} {σ : Store} {n : Nat} {env : Env} {ε : Loc} {Q : V → Store → Prop} {X : AX → Store → Prop} {QS : Fl → Loc → Store → Prop}
theorem told_spec (O : L1 C) {x D : Addr} {fs : Files} (s : SHx σ x D fs) (w : WFs fs) :
    CALL C (n + 7) (.ref 134) [.obj x] σ (fun r σ' => r = .tup (told fs) ∧ Ex [] σ σ') X := by
  have s0 := s
  obtain ⟨d, es, ep, h1, h2, h3, h4⟩ := s
  refine CALL_cells (names := ["self"]) O.ok (O.k (f := fun K => K.lookup 134) (by k_is)) (O.k (f := fun K => codeIn K _ _) (by k_is)) ?_ (by decide) (by walk_at "hk") (by decide) (by decide) ?_
  · exact all1 fun _ => rfl
  intro L hL
  show TS C (n + 6) _ [] _ (upd σ (L + 1) (.cell (some (.obj x)))) _ _
  have hL1 : σ (L + 1) = none := hL _ (Nat.le_succ _)
  have hs : Ex [] σ (upd σ (L + 1) (.cell (some (.obj x)))) := Ex.new hL1
  have g1 := hs.get h1; have g2 := hs.get h2
  refine TS_cons (TS_Return (bc O (TL_cons (EV_ListComp (IT_val (EV_Method (EV_cell rfl (upd_self _ _ _) (sh_meth O g1 g2 (CW_nil (Kp_K O.ok (O.k (f := fun K => keepIn K _) (by k_is))) (OPL_call ((paths_spec (n := n + 3) O (s0.ex0 hs) w.1).mono ?_ fun _ _ z => z)))))))))))
  rintro r σ₁ ⟨l, rfl, hl, hl2, hs2⟩
  refine ⟨_, _, goes_list hl2, ?_, fun Cl => ?_⟩
  · rw [List.length_map, (sortS_perm _).length_eq]; have := w.1; simp; omega
  have hs3 := hs.trans hs2
  refine CmpW_each (fun σ' => Ex [] σ₁ σ') _ (fun p => .tup [.str p, .str (fileOf fs p).1, .tup (tellRows (fileOf fs p).2)]) (fun σ' e => e.get hl2) _ _ _ _ Ex.refl (fun p hp ε σ' e => ?_) (fun σ' e => ?_)
  · obtain ⟨hf, hw, _⟩ := file_of w hp
    have e2 := hs3.trans e
    have g3 := e2.get h1; have g4 := e2.get h2
    have gc : σ' (L + 1) = some (.cell (some (.obj x))) := e.get (hs2.get (upd_self _ _ _))
    refine TA_Name (SN_local (TT_tests_nil ⟨rfl, ?_⟩))
    refine EV_Tuple (TL_cons (EV_local rfl (TL_cons (EV_Method (EV_cell rfl gc (sh_meth O g3 g4 (CW_cons (TL_cons (EV_local rfl (TL_nil ⟨Kp_K O.ok (O.k (f := fun K => keepIn K _) (by k_is)), OPL_call ((kind_of_spec (n := n + 4) O (s0.ex0 e2)).mono ?_ fun _ _ z => z)⟩))))))))))
    rintro r σ₂ ⟨rfl, rfl⟩
    refine TL_cons (EV_Method (EV_cell rfl gc (sh_meth O g3 g4 (CW_cons (TL_cons (EV_local rfl (TL_nil ⟨Kp_K O.ok (O.k (f := fun K => keepIn K _) (by k_is)), OPL_call ((rows_of_spec (n := n + 1) O (s0.ex0 e2) hf hw).mono ?_ fun _ _ z => z)⟩)))))))
    rintro r σ₃ ⟨rfl, e3⟩
    refine TL_nil ⟨by simp, ?_, e.trans e3⟩
    rw [hf]; rfl
  · intro D' hD'
    refine TL_nil (tuple_list (upd_self _ _ _) ?_ ⟨rfl, (hs3.trans e).trans (Ex.new hD')⟩)
    rw [List.nil_append, List.length_map, (sortS_perm _).length_eq]; have := w.1; simp; omega
end
end Mine
end
section
open PySem PySem.W PyProof.Rows PySem.Calls PySem.Spec
set_option Elab.async false
set_option maxRecDepth 100000
set_option maxHeartbeats 0
namespace Mine
def relRows (es : List (Int × Array UInt8)) : List (Int × Array UInt8) := (sortI (es.map (·.1))).map fun k => (k, (vlB es k).getD #[])
section
variable {C : Cx} {σ : Store} {n : Nat} {env : Env} {ε : Loc} {Q : V → Store → Prop} {X : AX → Store → Prop} {QS : Fl → Loc → Store → Prop}
inductive NewQ (σ : Store) (fs : Files) (r : V) (σ' : Store) : Prop
  | mk (x D : Addr) (h1 : r = .obj x) (h2 : σ x = none) (h3 : σ D = none) (h4 : SHx σ' x D fs) (h5 : Ex [] σ σ')
theorem new_spec (O : L1 C) : CALL C (n + 3) (.ref 137) [] σ (NewQ σ []) X := by
  refine CALL_make O.ok (O.k (f := fun K => makesIn K 137) (by k_is)) (O.k (f := fun K => findIn K _ _) (by k_is)) (O.k (f := fun K => isFn K _) (by k_is)) fun x d hx hd hne => ?_
  refine CALL_def (names := ["self"]) O.ok (O.k (f := fun K => K.lookup 77) (by k_is)) (O.k (f := fun K => codeIn K _ _) (by k_is)) ?_ (by decide) (by decide) ?_
  · exact all1 fun _ => rfl
  intro L
  refine TS_cons (TS_SetAttr O.ok (EV_Dict0S O.ok fun D hD => EV_local rfl ?_))
  have hDx : D ≠ x := fun q => by rw [q, upd_self] at hD; cases hD
  have hDd : D ≠ d := fun q => by rw [q, upd_ne _ _ (Ne.symm hne), upd_self] at hD; cases hD
  have hD0 : σ D = none := by rw [upd_ne _ _ hDx, upd_ne _ _ hDd] at hD; exact hD
  refine ⟨x, 137, d, [], rfl, by rw [upd_ne _ _ (Ne.symm hDx), upd_self], by rw [upd_ne _ _ (Ne.symm hDd), upd_ne _ _ (Ne.symm hne), upd_self], by simp, O.k (f := fun K => findIn K _ _) (by k_is), O.k (f := fun K => plainOver K _) (by k_is), O.k (f := fun K => takerIn K _ _) (by k_is), O.k (f := fun K => hasDictIn K _) (by k_is), ?_⟩
  refine TS_nil ⟨rfl, x, D, rfl, hx, hD0, ⟨d, [], 0, ?_, ?_, ?_, .nil⟩, ?_⟩
  · rw [upd_ne _ _ hne, upd_ne _ _ (Ne.symm hDx), upd_self]
  · rw [upd_self]; rfl
  · rw [upd_ne _ _ hDd, upd_self]
  · intro a o e _
    have n1 : a ≠ d := fun q => by rw [q, hd] at e; cases e
    have n2 : a ≠ x := fun q => by rw [q, hx] at e; cases e
    have n3 : a ≠ D := fun q => by rw [q, hD0] at e; cases e
    rw [upd_ne _ _ n1, upd_ne _ _ n3, upd_ne _ _ n2, upd_ne _ _ n1]; exact e
end
end Mine
end
section
open PySem PySem.W PyProof.Rows PySem.Calls PySem.Spec
set_option Elab.async false
set_option maxRecDepth 100000
set_option maxHeartbeats 0
namespace Mine
def letter (k : Str) : UInt8 := if k = "sequential" then 83 else if k = "relative" then 82 else 73
theorem letter_at : ∀ k ∈ kinds, ∃ j : Nat, j < 3 ∧ kinds[j]? = some k ∧ (∀ i, i < j → kinds[i]? ≠ some k) ∧ cut [(83 : UInt8), 82, 73] (some (j : Int)) (some ((j : Int) + 1)) = [letter k] := by
  intro k hk
  simp only [kinds, List.mem_cons, List.not_mem_nil, or_false] at hk
  rcases hk with rfl | rfl | rfl
  · exact ⟨0, by decide, rfl, by omega, by decide⟩
  · refine ⟨1, by decide, rfl, fun i hi => ?_, by decide⟩
    have : i = 0 := by omega
    subst this; decide
  · refine ⟨2, by decide, rfl, fun i hi => ?_, by decide⟩
    have : i = 0 ∨ i = 1 := by omega
    rcases this with rfl | rfl <;> decide
def rowB (b : Array UInt8) : List UInt8 := be 2 b.size ++ b.toList
def rowsB : Cont → List UInt8
  | .seq rows => rows.flatMap rowB
  | .rel es => (relRows es).flatMap fun r => be 4 r.1.toNat ++ rowB r.2
def fileB (p : Str) (f : Str × Cont) : List UInt8 := letter f.1 :: (pathBytes p ++ (be 4 (tellRows f.2).length ++ rowsB f.2))
def writeB (fs : Files) : List UInt8 := (pathsOf fs).flatMap fun p => fileB p (fileOf fs p)
def small (f : Str × Cont) : Prop := match f.2 with
  | .seq _ => True
  | .rel es => ∀ r ∈ relRows es, r.1 < 4294967296
def WrGood (fs : Files) : Prop := ∀ p ∈ pathsOf fs, goodPath p ∧ small (fileOf fs p)
theorem flat_len {α : Type} (f : α → List UInt8) (k : Nat) : ∀ (l : List α), (∀ x ∈ l, (f x).length ≤ k) → (l.flatMap f).length ≤ l.length * k
  | [], _ => by simp
  | x :: l, h => by
    have h1 := h x (.head _)
    have h2 := flat_len f k l fun y hy => h y (.tail _ hy)
    rw [List.flatMap_cons, List.length_append, List.length_cons, Nat.add_mul]; omega
theorem rel_mem {es : List (Int × Array UInt8)} {r : Int × Array UInt8} (h : r ∈ relRows es) : r ∈ es := by
  unfold relRows at h
  obtain ⟨k, hk, rfl⟩ := List.mem_map.mp h
  obtain ⟨b, hb, hm⟩ := vlB_mem ((sortI_perm _).mem_iff.mp hk)
  rw [hb]; exact hm
theorem relRows_length (es : List (Int × Array UInt8)) : (relRows es).length = es.length := by
  unfold relRows; rw [List.length_map, (sortI_perm _).length_eq, List.length_map]
theorem tellRows_rel (es : List (Int × Array UInt8)) : tellRows (.rel es) = (relRows es).map rowV := by
  unfold tellRows relRows; rw [List.map_map]; rfl
theorem rowB_len {b : Array UInt8} (h : b.size ≤ 200) : (rowB b).length ≤ 202 := by
  unfold rowB; rw [List.length_append, be_length]; simp; omega
theorem pathBytes_len {p : Str} (h : goodPath p) : (pathBytes p).length ≤ 256 := by
  unfold pathBytes; rw [List.length_append, be_length, List.length_map]; have := h.2; simp; omega
theorem tellRows_len {f : Str × Cont} (w : WF f) : (tellRows f.2).length ≤ 200 := by
  obtain ⟨k, c⟩ := f
  cases c with
  | seq rows => obtain ⟨_, _, h, _⟩ := w; simpa [tellRows] using h
  | rel es => obtain ⟨_, _, h, _⟩ := w; rw [tellRows_rel, List.length_map, relRows_length]; exact Nat.le_of_lt (Nat.lt_of_lt_of_le h (by decide))
theorem rowsB_len {f : Str × Cont} (w : WF f) : (rowsB f.2).length ≤ 49000 := by
  obtain ⟨k, c⟩ := f
  cases c with
  | seq rows =>
    obtain ⟨_, _, h, h2⟩ := w
    have := flat_len rowB 202 rows fun b hb => rowB_len (h2 b hb)
    have h' : rows.length ≤ 200 := h
    show (rows.flatMap rowB).length ≤ _; omega
  | rel es =>
    obtain ⟨_, _, h, h2⟩ := w
    have := flat_len (fun r : Int × Array UInt8 => be 4 r.1.toNat ++ rowB r.2) 206 (relRows es) fun r hr => by
      have := rowB_len (h2 r (rel_mem hr)).2
      rw [List.length_append, be_length]; omega
    rw [relRows_length] at this
    have h' : es.length < 64 := h
    show ((relRows es).flatMap fun r => be 4 r.1.toNat ++ rowB r.2).length ≤ _; omega
theorem flat_take {α : Type} (g : α → List UInt8) {l : List α} {i : Nat} {x : α} (h : l[i]? = some x) : (l.take (i + 1)).flatMap g = (l.take i).flatMap g ++ g x := by
  rw [List.take_add_one, h, List.flatMap_append]; simp
theorem flat_take_len {α : Type} (g : α → List UInt8) (l : List α) (i : Nat) : ((l.take i).flatMap g).length ≤ (l.flatMap g).length := by
  conv => rhs; rw [← List.take_append_drop i l, List.flatMap_append, List.length_append]
  omega
section
variable {C : Cx} {σ : Store} {n : Nat} {env : Env} {ε : Loc} {Q : V → Store → Prop} {X : AX → Store → Prop} {QS : Fl → Loc → Store → Prop}
theorem EV_letters (O : L1 C) {pos : Pos} (h : Q (.bytes #[83, 82, 73]) σ) (hk : env.scope.kind = .function := by rfl) (hl : env.kindOf "KIND_LETTERS" = some .globalImplicit := by rfl) (hg : env.globals = mainGlobals := by rfl) : EV C n env ε (.Name "KIND_LETTERS" pos) σ Q X := by
  refine EV_global (y := .bytes #[83, 82, 73]) O.ok (O.k (f := fun K => nsIn K mainGlobals "KIND_LETTERS") (by k_is)) (fun h K => ?_) h hk hl hg
  exact ⟨_, rfl⟩
inductive WrI (x : Addr) (fs : Files) (σ₁ : Store) (i : Nat) (ε : Loc) (σ' : Store) : Prop
  | mk (e1 : ε.lookup ("shelf" : Str) = some (.obj x)) (e2 : ε.lookup ("found" : Str) = some (.bytes (((pathsOf fs).take i).flatMap fun p => fileB p (fileOf fs p)).toArray)) (e3 : (((pathsOf fs).take i).flatMap fun p => fileB p (fileOf fs p)).length ≤ i * 50000) (e4 : Ex [] σ₁ σ') (e5 : ∀ p ∈ (pathsOf fs).take i, goodPath p ∧ small (fileOf fs p))
inductive WsI (x : Addr) (fk : Str) (base : List UInt8) (rows : List (Array UInt8)) (σ₅ : Store) (i : Nat) (ε : Loc) (σ' : Store) : Prop
  | mk (q1 : ε.lookup ("kind" : Str) = some (.str fk)) (q2 : ε.lookup ("shelf" : Str) = some (.obj x)) (q3 : ε.lookup ("found" : Str) = some (.bytes (base ++ (rows.take i).flatMap rowB).toArray)) (q4 : Ex [] σ₅ σ')
inductive WtI (x : Addr) (fk : Str) (base : List UInt8) (es : List (Int × Array UInt8)) (σ₅ : Store) (i : Nat) (ε : Loc) (σ' : Store) : Prop
  | mk (q1 : ε.lookup ("kind" : Str) = some (.str fk)) (q2 : ε.lookup ("shelf" : Str) = some (.obj x)) (q3 : ε.lookup ("found" : Str) = some (.bytes (base ++ ((relRows es).take i).flatMap fun r => be 4 r.1.toNat ++ rowB r.2).toArray)) (q4 : Ex [] σ₅ σ') (q5 : ∀ r ∈ (relRows es).take i, r.1 < 4294967296)
theorem write_spec (O : L1 C) {x D : Addr} {fs : Files} (s : SHx σ x D fs) (w : WFs fs) {P : V → Prop} (hP : P (.tup [.int 0, .int 0])) :
    CALL C (n + 12) (.ref 167) [.obj x] σ (fun r σ' => WrGood fs ∧ r = .bytes (writeB fs).toArray ∧ Ex [] σ σ') (fun ax σ' => ¬ WrGood fs ∧ Flt [] σ P ax σ') := by
  have s0 := s
  obtain ⟨d, es, ep, h1, h2, h3, h4⟩ := s
  refine CALL_def (names := ["shelf"]) O.ok (O.k (f := fun K => K.lookup 167) (by k_is)) (O.k (f := fun K => codeIn K _ _) (by k_is)) ?_ (by decide) (by decide) ?_
  · exact all1 fun _ => rfl
  intro L
  have hlen : (pathsOf fs).length < 64 := by unfold pathsOf; rw [(sortS_perm _).length_eq]; simpa using w.1
  refine TS_cons (TS_Assign (EV_bytes (SN_local ?_)))
  show TS _ _ _ _ (execs (_ :: _) _) _ _ _
  refine TS_cons (TS_For_it rfl (IT_val (EV_Method (EV_local rfl (sh_meth O h1 h2 (CW_nil (Kp_K O.ok (O.k (f := fun K => keepIn K _) (by k_is))) (OPL_call ((paths_spec (n := n + 8) O s0 w.1).mono ?_ fun _ _ z => z))))))))
  rintro r σ₁ ⟨l, rfl, hl, hl2, hE⟩
  refine ⟨_, _, goes_list hl2, ?_⟩
  refine ForW_each (WrI x fs σ₁) _ (pathsOf fs) (fun i p hp ε σ' ⟨e1, e2, e3, e4, e5⟩ => ?_) (fun ε σ' ⟨e1, e2, e3, e4, e5⟩ => ?_) ⟨rfl, rfl, by simp, Ex.refl, by simp⟩
  · have hpm := List.mem_of_getElem? hp
    obtain ⟨hf, hw, hps⟩ := file_of w hpm
    have hi : i < 64 := by have := (List.getElem?_eq_some_iff.mp hp).1; omega
    have eall := hE.trans e4
    have g3 := eall.get h1; have g4 := eall.get h2
    generalize hacc : (((pathsOf fs).take i).flatMap fun p => fileB p (fileOf fs p)) = acc at e2 e3
    refine TA_Name (SN_local ?_)
    refine TS_cons (TS_AssignSwap (names := ["kind", "rows"]) (EV_Tuple (TL_cons (EV_Method (EV_local e1 (sh_meth O g3 g4 (CW_cons (TL_cons (EV_local rfl (TL_nil ⟨Kp_K O.ok (O.k (f := fun K => keepIn K _) (by k_is)), OPL_call ((kind_of_spec (n := n + 9) O (s0.ex0 eall)).mono ?_ fun _ _ z => z)⟩))))))))))
    rintro r σ₂ ⟨rfl, rfl⟩
    refine TL_cons (EV_Method (EV_local e1 (sh_meth O g3 g4 (CW_cons (TL_cons (EV_local rfl (TL_nil ⟨Kp_K O.ok (O.k (f := fun K => keepIn K _) (by k_is)), OPL_call ((rows_of_spec (n := n + 6) O (s0.ex0 eall) hf hw).mono ?_ fun _ _ z => z)⟩)))))))
    rintro r σ₃ ⟨rfl, e6⟩
    rw [hf]
    generalize hff : fileOf fs p = f at hw ⊢
    refine TL_nil ⟨by simp, _, rfl, rfl, TA_bind (SN_local (TA_bind (SN_local ?_)))⟩
    obtain ⟨j, hj, hj1, hj2, hj3⟩ := letter_at f.1 hw.1
    show TS _ _ _ _ (execs (_ :: _) _) _ _ _
    have hbad : ∀ ax σ', (¬ (goodPath p ∧ small f) ∧ Flt [] σ₃ P ax σ') → ¬ WrGood fs ∧ Flt [] σ P ax σ' := fun ax σ' ⟨q1, q2, q3, q4⟩ => ⟨fun g => q1 (hff ▸ g p hpm), q2, q3, (eall.trans e6).trans q4⟩
    refine TS_cons (TS_Assign (EV_Method (gl (v := .ref 63) O (meth_K_tup O.ok PySem.F.slot_tuple_index PySem.F.type_tuple_index (O.k (f := fun K => K.lookup 63) (by k_is)) (CW_cons (TL_cons (EV_local rfl (TL_nil ⟨Kp_builtin, index_K O.ok (O.k (f := fun K => K.lookup 63) (by k_is)) (ys := kinds) ⟨[_, _, _], rfl, rfl⟩ hj1 hj2 (SN_local ?_)⟩))))))))
    show TS _ _ _ _ (execs (_ :: _) _) _ _ _
    refine TS_cons (TS_Assign (EV_BinOp (EV_BinOp (EV_BinOp (EV_local e2 (EV_Cut (EV_letters O ?_)))))))
    refine EV_local rfl ⟨_, rfl, EV_BinOp (EV_local rfl (EV_int (add_ii ⟨_, rfl, cut_bytes (by decide) ?_⟩)))⟩
    rw [show (#[(83 : UInt8), 82, 73]).toList = [83, 82, 73] from rfl, hj3]
    refine add_bb (by simp; omega) (gc O (TL_cons (EV_local rfl (TL_nil ((path_octets_spec (n := n + 3) (P := P) O (by omega) hP).mono ?_ fun ax σ' z => hbad ax σ' ⟨fun g => z.1 g.1, z.2⟩)))))
    rintro r σ₄ ⟨hgp, rfl, e7⟩
    have hpl := pathBytes_len hgp
    refine add_bb (by simp; omega) (gc O (TL_cons (bc O (TL_cons (EV_local rfl (TL_nil (len_tup ?_ (TL_cons (EV_int (TL_nil ?_))))))))))
    · have := tellRows_len hw; omega
    refine ((count_octets_spec (n := n + 5) (P := P) (c := (tellRows f.2).length) (w := 4) O (by decide) hP).mono ?_ fun ax σ' z => ?_)
    · rintro r σ₅ ⟨rfl, _, e8⟩
      refine add_bb (by simp [be_length]; omega) (SN_local ?_)
      show TS _ _ _ _ (execs (_ :: _) _) _ _ _
      have htl := tellRows_len hw
      have hrl := rowsB_len hw
      have ebase : acc.toArray ++ [letter f.1].toArray ++ (pathBytes p).toArray ++ (be 4 (tellRows f.2).length).toArray = (acc ++ (letter f.1 :: (pathBytes p ++ be 4 (tellRows f.2).length))).toArray := by simp
      rw [ebase]
      have hbl : (acc ++ (letter f.1 :: (pathBytes p ++ be 4 (tellRows f.2).length))).length ≤ i * 50000 + 261 := by simp [be_length]; omega
      have hfile : ∀ out : List UInt8, out = (acc ++ (letter f.1 :: (pathBytes p ++ be 4 (tellRows f.2).length))) ++ rowsB f.2 → out = ((pathsOf fs).take (i + 1)).flatMap fun p => fileB p (fileOf fs p) := by
        rintro out rfl
        rw [flat_take _ hp, hacc, hff]
        unfold fileB
        simp
      generalize (acc ++ (letter f.1 :: (pathBytes p ++ be 4 (tellRows f.2).length))) = base at hbl hfile
      have e9 : Ex [] σ₁ σ₅ := ((e4.trans e6).trans e7).trans e8
      have done : small f → ∀ (ε : Loc) (σ' : Store), ε.lookup ("shelf" : Str) = some (.obj x) → ε.lookup ("found" : Str) = some (.bytes (base ++ rowsB f.2).toArray) → Ex [] σ₅ σ' → (σ' l = some (.list ((pathsOf fs).map .str))) ∧ WrI x fs σ₁ (i + 1) ε σ' := by
        intro hsm ε σ' q1 q2 q3
        have q4 := hfile _ rfl
        refine ⟨q3.get (e9.get hl2), q1, by rw [← q4]; exact q2, by rw [← q4, List.length_append, Nat.add_mul]; omega, e9.trans q3, ?_⟩
        intro p' hp'
        rw [List.take_add_one, hp] at hp'
        rcases List.mem_append.mp hp' with hp' | hp'
        · exact e5 p' hp'
        · simp at hp'; subst hp'; exact ⟨hgp, hff ▸ hsm⟩
      obtain ⟨fk, fc⟩ := f
      cases fc with
      | seq rows =>
        obtain ⟨wk, w1, w2, w3⟩ := hw
        have hk : ¬ fk = "relative" := w1
        refine TS_cons (TS_For rfl (EV_local rfl ⟨_, _, σ₅, goes_tup, fun _ _ e => e, trivial, ?_⟩))
        refine ForW_each (WsI x fk base rows σ₅) V.bytes rows (fun i' b hb ε σ' ⟨q1, q2, q3, q4⟩ => ?_) (fun ε σ' ⟨q1, q2, q3, q4⟩ => ?_) ⟨rfl, e1, by simp, Ex.refl⟩
        · refine TA_Name (SN_local (TS_cons (TS_If (TT_Compare (EV_local q1 (EV_str (eq_ss ⟨_, rfl, ?_⟩)))))))
          rw [if_neg (by show ¬ decide _ = true; rw [decide_eq_true_eq]; exact hk)]
          have hbs := w3 b (List.mem_of_getElem? hb)
          have hfl := flat_take_len rowB rows i'
          have hrl' : (rows.flatMap rowB).length ≤ 49000 := hrl
          refine TS_cons (TS_Assign (EV_BinOp (EV_local q3 (gc O (TL_cons (EV_local rfl (TL_nil ((row_octets_spec (n := n + 4) O (by omega)).mono ?_ fun _ _ z => z))))))))
          rintro r σ₆ ⟨rfl, e10⟩
          refine add_bb (by simp only [List.size_toArray, List.length_append, be_length, Array.size_append]; omega) (SN_local (TS_nil (TS_nil ⟨trivial, q1, q2, ?_, q4.trans e10⟩)))
          show some (V.bytes _) = some (V.bytes _)
          rw [flat_take _ hb]
          congr 2
          apply Array.ext'
          simp [rowB]
        · rw [List.take_length] at q3
          exact TS_nil (done trivial ε σ' q2 q3 q4)
      | rel es =>
        obtain ⟨wk, w1, w2, w3⟩ := hw
        have hk : fk = "relative" := w1
        refine TS_cons (TS_For rfl (EV_local rfl ⟨_, _, σ₅, goes_tup, fun _ _ e => e, trivial, ?_⟩))
        rw [tellRows_rel]
        refine ForW_each (WtI x fk base es σ₅) rowV (relRows es) (fun i' b hb ε σ' ⟨q1, q2, q3, q4, q5⟩ => ?_) (fun ε σ' ⟨q1, q2, q3, q4, q5⟩ => ?_) ⟨rfl, e1, by simp, Ex.refl, by simp⟩
        · refine TA_Name (SN_local (TS_cons (TS_If (TT_Compare (EV_local q1 (EV_str (eq_ss ⟨_, rfl, ?_⟩)))))))
          rw [if_pos (by show decide _ = true; rw [decide_eq_true_eq]; exact hk)]
          have hbm := List.mem_of_getElem? hb
          obtain ⟨hb1, hbs⟩ := w3 b (rel_mem hbm)
          have hfl := flat_take_len (fun r : Int × Array UInt8 => be 4 r.1.toNat ++ rowB r.2) (relRows es) i'
          have hrl' : ((relRows es).flatMap fun r => be 4 r.1.toNat ++ rowB r.2).length ≤ 49000 := hrl
          have hbn : b.1 = (b.1.toNat : Int) := by omega
          refine TS_cons (TS_Assign (EV_BinOp (EV_BinOp (EV_local q3 (gc O (TL_cons (EV_Sub (EV_local rfl (EV_int (sub_tup (j := 0) rfl rfl (TL_cons (EV_int (TL_nil ?_)))))))))))))
          rw [hbn]
          refine ((count_octets_spec (n := n + 5) (P := P) (c := b.1.toNat) (w := 4) O (by decide) hP).mono ?_ fun ax σ'' z => ?_)
          · rintro r σ₆ ⟨rfl, hlt, e10⟩
            have hlt' : b.1 < 4294967296 := by have : b.1.toNat < 4294967296 := hlt; omega
            refine add_bb (by simp only [List.size_toArray, List.length_append, be_length, Array.size_append]; omega) (gc O (TL_cons (EV_Sub (EV_local rfl (EV_int (sub_tup (j := 1) rfl rfl (TL_nil ((row_octets_spec (n := n + 4) O (by omega)).mono ?_ fun _ _ z => z))))))))
            rintro r σ₇ ⟨rfl, e11⟩
            refine add_bb (by simp only [List.size_toArray, List.length_append, be_length, Array.size_append]; omega) (SN_local (TS_nil (TS_nil ⟨trivial, q1, q2, ?_, (q4.trans e10).trans e11, ?_⟩)))
            · show some (V.bytes _) = some (V.bytes _)
              rw [flat_take _ hb]
              congr 2
              apply Array.ext'
              simp [rowB]
            · intro r hr
              rw [List.take_add_one, hb] at hr
              rcases List.mem_append.mp hr with hr | hr
              · exact q5 r hr
              · simp at hr; subst hr; exact hlt'
          · have hge : 4294967296 ≤ b.1.toNat := z.1
            refine hbad ax σ'' ⟨fun g => ?_, z.2.1, z.2.2.1, ((e7.trans e8).trans q4).trans z.2.2.2⟩
            have : b.1 < 4294967296 := g.2 b hbm
            omega
        · rw [List.take_length] at q3 q5
          exact TS_nil (done q5 ε σ' q2 q3 q4)
    · have := tellRows_len hw
      have h4 : 4294967296 ≤ (tellRows f.2).length := z.1
      omega
  · show TS _ _ _ _ (execs (_ :: _) _) _ _ _
    refine TS_cons (TS_Return (EV_local e2 ⟨?_, ?_, hE.trans e4⟩))
    · rw [List.take_length] at e5; exact e5
    · rw [List.take_length]; rfl
end
end Mine
end
section
open PySem PySem.W PyProof.Rows PySem.Calls PySem.Spec
set_option Elab.async false
set_option maxRecDepth 100000
set_option maxHeartbeats 0
namespace Mine
abbrev PR (α : Type) := Except Nat (α × Nat)
def takeP (b : List UInt8) (i m : Nat) : PR (List UInt8) := if b.length < i + m then .error b.length else .ok ((b.drop i).take m, i + m)
def num (xs : List UInt8) : Nat := xs.foldl (fun a o => a * 256 + o.toNat) 0
def countP (b : List UInt8) (i w : Nat) : PR Nat := match takeP b i w with
  | .error j => .error j
  | .ok (xs, i') => .ok (num xs, i')
theorem small_nat {k : Nat} (h : k < 4611686018427387904) : Builtin.Range.small 0 k 1 = true := small_one (by omega) (by omega) (by omega) (by omega)
theorem size_nat (k : Nat) : Builtin.Range.rangeSize 0 k 1 = (k : Nat) := by rw [rangeSize_up]; simp
theorem clip_nat {n k : Nat} (h : k ≤ n) : clipAt n (k : Int) = k := by
  have := clipAt_cast n (k : Int)
  rw [if_neg (by omega)] at this
  omega
theorem cut_nat {α : Type} {l : List α} {lo hi : Nat} (h1 : lo ≤ l.length) (h2 : hi ≤ l.length) : cut l (some (lo : Int)) (some (hi : Int)) = (l.drop lo).take (hi - lo) := by
  unfold cut
  simp only [Option.elim_some, clip_nat h1, clip_nat h2]
structure Rd (σ : Store) (r d : Addr) (b : List UInt8) (i : Nat) : Prop where
  r : σ r = some (.inst 226 d)
  d : σ d = some (.ns [("octets", .bytes b.toArray), ("at", .int i)])
def FltAt (j : Nat) (S : List Addr) (σ : Store) : AX → Store → Prop := Flt S σ fun a => a = .tup [.int 0, .int j]
inductive RQ {α : Type} (σ : Store) (r d : Addr) (b : List UInt8) (p : PR α) (val : α → V) (v : V) (σ' : Store) : Prop
  | mk (a : α) (i' : Nat) (h1 : p = .ok (a, i')) (h2 : v = val a) (h3 : Rd σ' r d b i') (h4 : Ex [d] σ σ')
inductive RXp {α : Type} (σ : Store) (d : Addr) (p : PR α) (ax : AX) (σ' : Store) : Prop
  | mk (j : Nat) (h1 : p = .error j) (h2 : FltAt j [d] σ ax σ')
theorem Rd.ne {σ : Store} {r d : Addr} {b : List UInt8} {i : Nat} (h : Rd σ r d b i) : r ≠ d := fun q => by have := h.r; rw [q, h.d] at this; cases this
theorem Rd.ex {S : List Addr} {σ σ' : Store} {r d : Addr} {b : List UInt8} {i : Nat} (h : Rd σ r d b i) (e : Ex S σ σ') (h1 : r ∉ S := by simp) (h2 : d ∉ S := by simp) : Rd σ' r d b i := ⟨e _ _ h.r h1, e _ _ h.d h2⟩
section
variable {C : Cx} {σ : Store} {n : Nat} {env : Env} {ε : Loc} {Q : V → Store → Prop} {X : AX → Store → Prop} {QS : Fl → Loc → Store → Prop}
theorem rd_at (O : L1 C) {r d : Addr} {b : List UInt8} {i : Nat} {ex : Bool} (h : Rd σ r d b i) (q : Q (.int i) σ) : OP1 C n env ε (fun v => getAttr v "at" ex) (.obj r) σ Q X :=
  attr_own O.ok h.r h.d (y := .int i) rfl rfl (O.k (f := fun K => plainGet K 226 _) (by k_is)) (O.k (f := fun K => hasDictIn K 226) (by k_is)) (O.k (f := fun K => findIn K (.ref 226) _) (by k_is)) (O.k (f := fun K => noGet K _) (by k_is)) q
theorem rd_octets (O : L1 C) {r d : Addr} {b : List UInt8} {i : Nat} {ex : Bool} (h : Rd σ r d b i) (q : Q (.bytes b.toArray) σ) : OP1 C n env ε (fun v => getAttr v "octets" ex) (.obj r) σ Q X :=
  attr_own O.ok h.r h.d (y := .bytes b.toArray) rfl rfl (O.k (f := fun K => plainGet K 226 _) (by k_is)) (O.k (f := fun K => hasDictIn K 226) (by k_is)) (O.k (f := fun K => findIn K (.ref 226) _) (by k_is)) (O.k (f := fun K => noGet K _) (by k_is)) q
theorem rd_meth (O : L1 C) {r d f : Addr} {b : List UInt8} {i : Nat} {nm : Str} {pl : Sem Bool} {QM : Value → List V → Store → Prop} (s : Rd σ r d b i) (h : QM (.ref f) [.obj r] σ)
    (hl : ([("octets", V.bytes b.toArray), ("at", .int i)] : List (Str × V)).lookup nm = none := by rfl) (h1 : plainGet (hd.heap_1 C.w.params) 226 nm = true := by k_is) (h2 : findIn (hd.heap_1 C.w.params) (.ref 226) nm = some (some (.ref f)) := by k_is)
    (h3 : isFn (hd.heap_1 C.w.params) (.ref f) = true := by k_is) : OPM C n env ε nm pl (.obj r) σ QM X :=
  meth_inst O.ok s.r s.d hl (O.k (f := fun K => plainGet K 226 nm) h1) (O.k (f := fun K => findIn K (.ref 226) nm) h2) (O.k (f := fun K => isFn K (.ref f)) h3) h
theorem rfault_spec (O : L1 C) {r : Addr} {what : Str} {j : Nat} :
    CALL C (n + 5) (.ref 188) [.obj r, .str what, .int j] σ (fun v σ' => ∃ e d, v = .obj e ∧ σ e = none ∧ σ d = none ∧ d ≠ e ∧ σ' = upd (upd σ e (.exc 60 (some d) true)) d (exNs what (.tup [.int 0, .int j]))) X := by
  refine CALL_def (names := ["self", "what", "at"]) O.ok (O.k (f := fun K => K.lookup 188) (by k_is)) (O.k (f := fun K => codeIn K _ _) (by k_is)) ?_ (by decide) (by decide) ?_
  · exact all3 fun _ _ _ => rfl
  intro L
  refine TS_cons (TS_Return (gc O (TL_cons (EV_local rfl (TL_cons (EV_Tuple (TL_cons (EV_int (TL_cons (EV_local rfl (TL_nil ⟨by simp, TL_nil ((fault_spec (n := n) O (.inl rfl)).mono (fun _ _ z => z) fun _ _ z => z)⟩)))))))))))
theorem taken_spec (O : L1 C) {r d : Addr} {b : List UInt8} {i m : Nat} (s : Rd σ r d b i) (hb : b.length ≤ 1000000) :
    CALL C (n + 7) (.ref 195) [.obj r, .int m] σ (RQ σ r d b (takeP b i m) fun xs => .bytes xs.toArray) (RXp σ d (takeP b i m)) := by
  refine CALL_def (names := ["self", "many"]) O.ok (O.k (f := fun K => K.lookup 195) (by k_is)) (O.k (f := fun K => codeIn K _ _) (by k_is)) ?_ (by decide) (by decide) ?_
  · exact all2 fun _ _ => rfl
  intro L
  refine TS_cons (TS_If (TT_Compare (EV_BinOp (EV_Attr (EV_local rfl (rd_at O s (EV_local rfl (add_ii (bc O (TL_cons (EV_Attr (EV_local rfl (rd_octets O s (TL_nil (len_b (by simp; omega) (gt_ii ⟨_, rfl, ?_⟩))))))))))))))))
  by_cases hlt : b.length < i + m
  · rw [if_pos (by simp; omega)]
    refine TS_cons (TS_Raise (n := n + 5) O.ok (EV_Method (EV_local rfl (rd_meth O s (CW_cons (TL_cons (EV_str (TL_cons (bc O (TL_cons (EV_Attr (EV_local rfl (rd_octets O s (TL_nil (len_b (by simp; omega) (TL_nil ⟨Kp_K O.ok (O.k (f := fun K => keepIn K _) (by k_is)), OPL_call ((rfault_spec (n := n + 1) (j := b.length) O).mono ?_ fun _ _ z => z)⟩))))))))))))))))
    rintro v σ₂ ⟨e, d', rfl, e1, e2, e3, rfl⟩
    exact raised O (S := [d]) (P := fun a => a = .tup [.int 0, .int b.length]) (σ₀ := σ) (X := RXp σ d (takeP b i m)) Ex.refl e1 e2 e3 rfl e1 fun ax σ₂ z => ⟨_, by unfold takeP; rw [if_pos hlt], z⟩
  · rw [if_neg (by simp; omega)]
    refine TS_nil ?_
    show TS _ _ _ _ (execs (_ :: _) _) _ _ _
    refine TS_cons (TS_SetAttr O.ok (EV_BinOp (EV_Attr (EV_local rfl (rd_at O s (EV_local rfl (add_ii (EV_local rfl ?_))))))))
    refine ⟨r, 226, d, _, rfl, s.r, s.d, by simp, O.k (f := fun K => findIn K _ _) (by k_is), O.k (f := fun K => plainOver K _) (by k_is), O.k (f := fun K => takerIn K _ _) (by k_is), O.k (f := fun K => hasDictIn K _) (by k_is), ?_⟩
    have hσ' : upd σ d (.ns (putA "at" (.int ((i : Int) + m)) [("octets", .bytes b.toArray), ("at", .int i)])) = upd σ d (.ns [("octets", .bytes b.toArray), ("at", .int ((i + m : Nat) : Int))]) := rfl
    rw [hσ']
    have s' : Rd (upd σ d (.ns [("octets", .bytes b.toArray), ("at", .int ((i + m : Nat) : Int))])) r d b (i + m) := ⟨by rw [upd_ne _ _ s.ne]; exact s.r, upd_self _ _ _⟩
    show TS _ _ _ _ (execs (_ :: _) _) _ _ _
    refine TS_cons (TS_Return (EV_Cut (EV_Attr (EV_local rfl (rd_octets O s' ?_)))))
    refine EV_BinOp (EV_Attr (EV_local rfl (rd_at O s' (EV_local rfl (sub_ii ⟨_, rfl, EV_Attr (EV_local rfl (rd_at O s' ⟨_, rfl, cut_bytes (by simpa using hb) ?_⟩))⟩)))))
    refine ⟨_, _, by unfold takeP; rw [if_neg hlt], ?_, s', Ex.set (by simp)⟩
    have e1 : ((i + m : Nat) : Int) - (m : Int) = ((i : Nat) : Int) := by omega
    rw [e1, List.toList_toArray, cut_nat (by omega) (by omega)]
    congr 3
    omega
end
end Mine
end
section
open PySem PySem.W PyProof.Rows PySem.Calls PySem.Spec
set_option Elab.async false
set_option maxRecDepth 100000
set_option maxHeartbeats 0
namespace Mine
def bindP {α β : Type} (p : PR α) (f : α → Nat → PR β) : PR β := match p with
  | .error j => .error j
  | .ok (a, i) => f a i
theorem countP_eq (b : List UInt8) (i w : Nat) : countP b i w = bindP (takeP b i w) fun xs i' => .ok (num xs, i') := by
  unfold countP bindP; cases takeP b i w <;> rfl
def badSign (c : UInt8) : Bool := !(decide (32 ≤ c.toNat) && decide (c.toNat ≤ 126))
def strOf (xs : List UInt8) : Str := ⟨(xs.map (·.toNat)).toArray⟩
def aheadOk (ahead : Option Str) (found : Str) : Bool := match ahead with
  | none => true
  | some a => strLt a found
def pathP (b : List UInt8) (i : Nat) (ahead : Option Str) : PR Str := bindP (countP b i 1) fun n i1 => bindP (takeP b i1 n) fun xs i2 => match xs.findIdx? badSign with
  | some k => .error (i + 1 + k)
  | none => if aheadOk ahead (strOf xs) then .ok (strOf xs, i2) else .error i
def kindOf (c : UInt8) : Option Str := if c = 83 then some "sequential" else if c = 82 then some "relative" else if c = 73 then some "indexed" else none
def kindP (b : List UInt8) (i : Nat) : PR Str := bindP (takeP b i 1) fun xs i1 => match kindOf (xs.headD 0) with
  | some k => .ok (k, i1)
  | none => .error i
def seqRowP (b : List UInt8) (i : Nat) : PR (List UInt8) := bindP (countP b i 2) fun n i1 => takeP b i1 n
def relRowP (b : List UInt8) (i ahead : Nat) : PR (Nat × List UInt8) := bindP (countP b i 4) fun k i1 => if k ≤ ahead then .error i else bindP (seqRowP b i1) fun xs i2 => .ok ((k, xs), i2)
theorem num_take {xs : List UInt8} {i : Nat} {c : UInt8} (h : xs[i]? = some c) : num (xs.take (i + 1)) = num (xs.take i) * 256 + c.toNat := by
  unfold num; rw [List.take_add_one, h, List.foldl_append]; rfl
theorem takeP_ok {b : List UInt8} {i m i' : Nat} {xs : List UInt8} (h : takeP b i m = .ok (xs, i')) : xs = (b.drop i).take m ∧ i' = i + m ∧ i + m ≤ b.length ∧ xs.length = m := by
  unfold takeP at h
  split at h
  · cases h
  · cases h
    refine ⟨rfl, rfl, by omega, ?_⟩
    rw [List.length_take, List.length_drop]; omega
section
variable {C : Cx} {σ : Store} {n : Nat} {env : Env} {ε : Loc} {Q : V → Store → Prop} {X : AX → Store → Prop} {QS : Fl → Loc → Store → Prop}
theorem RXp.sub {α β : Type} {σ σ₁ : Store} {d : Addr} {p : PR α} {f : α → Nat → PR β} {ax : AX} {σ' : Store} (e : Ex [d] σ σ₁) (h : RXp σ₁ d p ax σ') : RXp σ d (bindP p f) ax σ' := by
  obtain ⟨j, h1, h2, h3, h4⟩ := h
  exact ⟨j, by unfold bindP; rw [h1], h2, h3, e.trans h4⟩
theorem count_spec (O : L1 C) {r d : Addr} {b : List UInt8} {i w : Nat} (s : Rd σ r d b i) (hb : b.length ≤ 1000000) :
    CALL C (n + 9) (.ref 202) [.obj r, .int w] σ (RQ σ r d b (countP b i w) fun k => .int k) (RXp σ d (countP b i w)) := by
  refine CALL_def (names := ["self", "width"]) O.ok (O.k (f := fun K => K.lookup 202) (by k_is)) (O.k (f := fun K => codeIn K _ _) (by k_is)) ?_ (by decide) (by decide) ?_
  · exact all2 fun _ _ => rfl
  intro L
  refine TS_cons (TS_Assign (EV_int (SN_local ?_)))
  show TS _ _ _ _ (execs (_ :: _) _) _ _ _
  refine TS_cons (TS_For_it rfl (IT_val (EV_Method (EV_local rfl (rd_meth O s (CW_cons (TL_cons (EV_local rfl (TL_nil ⟨Kp_K O.ok (O.k (f := fun K => keepIn K _) (by k_is)), OPL_call ((taken_spec (n := n + 1) O s hb).mono ?_ fun ax σ' z => ?_)⟩)))))))))
  · rintro v σ₁ ⟨xs, i', hx, rfl, s1, e1⟩
    refine ⟨_, _, goes_bytes, ?_⟩
    rw [List.toList_toArray]
    refine ForW_each (fun i ε σ' => ε.lookup ("found" : Str) = some (.int (num (xs.take i))) ∧ σ' = σ₁) _ xs (fun i c hc ε σ' ⟨q1, q2⟩ => ?_) (fun ε σ' ⟨q1, q2⟩ => ?_) ⟨rfl, rfl⟩
    · subst q2
      refine TA_Name (SN_local (TS_cons (TS_Assign (EV_BinOp (EV_BinOp (EV_local q1 (EV_int (mul_ii (IntMulOk.of_right (by decide +kernel)) (EV_local rfl (add_ii (SN_local (TS_nil ⟨trivial, ?_, rfl⟩))))))))))))
      show some (V.int _) = some (V.int _)
      rw [num_take hc]
      push_cast; rfl
    · subst q2
      show TS _ _ _ _ (execs (_ :: _) _) _ _ _
      rw [List.take_length] at q1
      refine TS_cons (TS_Return (EV_local q1 ⟨num xs, i', ?_, rfl, s1, e1⟩))
      rw [countP_eq, hx]; rfl
  · rw [countP_eq]; exact RXp.sub Ex.refl z
theorem kindAt_of (c : UInt8) : (kindOf c = none → kindAt c < 0) ∧ (∀ k, kindOf c = some k → ∃ j : Nat, kindAt c = j ∧ seqIndex? (j : Int) 3 = some j ∧ (kinds.map V.str)[j]? = some (.str k)) := by
  unfold kindOf kindAt
  by_cases h1 : c = 83
  · subst h1
    exact ⟨by simp, fun k e => ⟨0, by decide, rfl, by simp at e; subst e; rfl⟩⟩
  by_cases h2 : c = 82
  · subst h2
    exact ⟨by simp, fun k e => ⟨1, by decide, rfl, by simp at e; subst e; rfl⟩⟩
  by_cases h3 : c = 73
  · subst h3
    exact ⟨by simp, fun k e => ⟨2, by decide, rfl, by simp at e; subst e; rfl⟩⟩
  simp [h1, h2, h3]
theorem kind_spec (O : L1 C) {r d : Addr} {b : List UInt8} {i : Nat} (s : Rd σ r d b i) (hb : b.length ≤ 1000000) :
    CALL C (n + 9) (.ref 216) [.obj r] σ (RQ σ r d b (kindP b i) .str) (RXp σ d (kindP b i)) := by
  refine CALL_def (names := ["self"]) O.ok (O.k (f := fun K => K.lookup 216) (by k_is)) (O.k (f := fun K => codeIn K _ _) (by k_is)) ?_ (by decide) (by decide) ?_
  · exact all1 fun _ => rfl
  intro L
  refine TS_cons (TS_Assign (EV_Method (EV_letters O (meth_bytes slot_find type_find (CW_cons (TL_cons (EV_Method (EV_local rfl (rd_meth O s (CW_cons (TL_cons (EV_int (TL_nil ⟨Kp_K O.ok (O.k (f := fun K => keepIn K _) (by k_is)), OPL_call ((taken_spec (n := n + 1) (m := 1) O s hb).mono ?_ fun ax σ' z => ?_)⟩)))))))))))))
  · rintro v σ₁ ⟨xs, i', hx, rfl, s1, e1⟩
    obtain ⟨hx1, rfl, hx2, hx3⟩ := takeP_ok hx
    obtain ⟨c, rfl⟩ : ∃ c, xs = [c] := by
      match xs, hx3 with
      | [c], _ => exact ⟨c, rfl⟩
    refine TL_nil ⟨Kp_builtin, find_b (SN_local ?_)⟩
    show TS _ _ _ _ (execs (_ :: _) _) _ _ _
    obtain ⟨k1, k2⟩ := kindAt_of c
    refine TS_cons (TS_If (TT_Compare (EV_local rfl (EV_int (lt_ii ⟨_, rfl, ?_⟩)))))
    cases hk : kindOf c with
    | none =>
      rw [if_pos (by simpa using k1 hk)]
      refine TS_cons (TS_Raise (n := n + 7) O.ok (EV_Method (EV_local rfl (rd_meth (f := 188) O s1 (CW_cons (TL_cons (EV_str (TL_cons (EV_BinOp (EV_Attr (EV_local rfl (rd_at O s1 (EV_int (sub_ii (TL_nil ⟨Kp_K O.ok (O.k (f := fun K => keepIn K _) (by k_is)), OPL_call ?_⟩)))))))))))))))
      rw [show ((i + 1 : Nat) : Int) - 1 = ((i : Nat) : Int) from by omega]
      refine ((rfault_spec (n := n + 3) (j := i) O).mono ?_ fun _ _ z => z)
      rintro v σ₂ ⟨e, d', rfl, q1, q2, q3, rfl⟩
      refine raised O (S := [d]) (P := fun a => a = .tup [.int 0, .int i]) (σ₀ := σ) (X := RXp σ d (kindP b i)) e1 q1 q2 q3 rfl (e1.gone q1 ?_) fun ax σ₂ z => ⟨_, by unfold kindP; rw [hx]; simp [bindP, hk], z⟩
      intro q
      rw [List.mem_singleton] at q; rw [q, s1.d] at q1; cases q1
    | some k =>
      obtain ⟨j, e2, e3, e4⟩ := k2 k hk
      rw [if_neg (by rw [e2]; simp)]
      refine TS_nil ?_
      show TS _ _ _ _ (execs (_ :: _) _) _ _ _
      have hj : j < 3 := by have := (List.getElem?_eq_some_iff.mp e4).1; simpa [kinds] using this
      refine TS_cons (TS_Return (EV_Sub (EV_kinds O (EV_local rfl ?_))))
      rw [e2]
      exact sub_tup (j := j) e3 e4 ⟨k, i + 1, by unfold kindP; rw [hx]; simp [bindP, hk], rfl, s1, e1⟩
  · exact RXp.sub Ex.refl z
end
end Mine
end
section
open PySem PySem.W PyProof.Rows PySem.Calls PySem.Spec
set_option Elab.async false
set_option maxRecDepth 100000
set_option maxHeartbeats 0
namespace Mine
theorem first_bad : ∀ {xs : List UInt8} {i : Nat} {c : UInt8}, xs[i]? = some c → badSign c = true → (∀ c ∈ xs.take i, badSign c = false) → xs.findIdx? badSign = some i
  | [], _, _, h, _, _ => by simp at h
  | x :: xs, 0, c, h, hb, _ => by simp at h; subst h; simp [List.findIdx?_cons, hb]
  | x :: xs, i + 1, c, h, hb, hg => by
    have h0 : badSign x = false := hg x (by simp)
    have := first_bad (xs := xs) (i := i) (c := c) (by simpa using h) hb fun c hc => hg c (by rw [List.take_succ_cons]; exact .tail _ hc)
    simp [List.findIdx?_cons, h0, this]
def aheadV : Option Str → V
  | none => .none
  | some a => .str a
section
variable {C : Cx} {σ : Store} {n : Nat} {env : Env} {ε : Loc} {Q : V → Store → Prop} {X : AX → Store → Prop} {QS : Fl → Loc → Store → Prop}
inductive RpI (r : Addr) (i : Nat) (xs : List UInt8) (ahead : Option Str) (σ₂ : Store) (k : Nat) (ε : Loc) (σ' : Store) : Prop
  | mk (q1 : ε.lookup ("self" : Str) = some (.obj r)) (q2 : ε.lookup ("begin" : Str) = some (.int i)) (q3 : ε.lookup ("signs" : Str) = some (.bytes xs.toArray)) (q4 : ε.lookup ("ahead" : Str) = some (aheadV ahead)) (q5 : σ' = σ₂) (q6 : ∀ c ∈ xs.take k, badSign c = false)
theorem rpath_spec (O : L1 C) {r d : Addr} {b : List UInt8} {i : Nat} {ahead : Option Str} (s : Rd σ r d b i) (hb : b.length ≤ 1000000) :
    CALL C (n + 11) (.ref 209) [.obj r, aheadV ahead] σ (RQ σ r d b (pathP b i ahead) .str) (RXp σ d (pathP b i ahead)) := by
  refine CALL_def (names := ["self", "ahead"]) O.ok (O.k (f := fun K => K.lookup 209) (by k_is)) (O.k (f := fun K => codeIn K _ _) (by k_is)) ?_ (by decide) (by decide) ?_
  · exact all2 fun _ _ => rfl
  intro L
  refine TS_cons (TS_Assign (EV_Attr (EV_local rfl (rd_at O s (SN_local ?_)))))
  show TS _ _ _ _ (execs (_ :: _) _) _ _ _
  refine TS_cons (TS_Assign (EV_Method (EV_local rfl (rd_meth O s (CW_cons (TL_cons (EV_Method (EV_local rfl (rd_meth O s (CW_cons (TL_cons (EV_int (TL_nil ⟨Kp_K O.ok (O.k (f := fun K => keepIn K _) (by k_is)), OPL_call ((count_spec (n := n + 1) (w := 1) O s hb).mono ?_ fun ax σ' z => RXp.sub Ex.refl z)⟩)))))))))))))
  rintro v σ₁ ⟨m, i1, hm, rfl, s1, e1⟩
  refine TL_nil ⟨Kp_K O.ok (O.k (f := fun K => keepIn K _) (by k_is)), OPL_call ((taken_spec (n := n + 3) (m := m) O s1 hb).mono ?_ fun ax σ' z => ?_)⟩
  · rintro v σ₂ ⟨xs, i2, hx, rfl, s2, e2⟩
    have hp : pathP b i ahead = match xs.findIdx? badSign with | some k => .error (i + 1 + k) | none => if aheadOk ahead (strOf xs) then .ok (strOf xs, i2) else .error i := by
      unfold pathP; rw [hm]; show bindP (takeP b i1 m) _ = _; rw [hx]; rfl
    have e12 := e1.trans e2
    have gone2 : ∀ a, σ₂ a = none → σ a = none := fun a h => by
      refine e12.gone h fun q => ?_
      rw [List.mem_singleton] at q; rw [q, s2.d] at h; cases h
    have hxl : xs.length ≤ 1000000 := by
      obtain ⟨_, _, h3, h4⟩ := takeP_ok hx; omega
    refine SN_local ?_
    show TS _ _ _ _ (execs (_ :: _) _) _ _ _
    refine TS_cons (TS_ForEnum rfl (bl O ⟨rfl, rfl⟩) (EV_local rfl ⟨_, rfl, ?_⟩))
    refine ForW_each (RpI r i xs ahead σ₂) _ _ (fun k k' hk ε σ' ⟨q1, q2, q3, q4, q5, q6⟩ => ?_) (fun ε σ' ⟨q1, q2, q3, q4, q5, q6⟩ => ?_) ⟨rfl, rfl, rfl, rfl, rfl, by simp⟩
    · subst q5
      obtain ⟨rfl, hkl⟩ : k = k' ∧ k < xs.length := by
        have h1 := (List.getElem?_eq_some_iff.mp hk)
        obtain ⟨h2, h3⟩ := h1
        simp at h2 h3
        exact ⟨h3, h2⟩
      obtain ⟨c, hc⟩ : ∃ c, xs[k]? = some c := ⟨xs[k], List.getElem?_eq_getElem hkl⟩
      have hcd : (xs.toArray.toList.getD k 0) = c := by simp [List.getD, hc]
      rw [hcd]
      refine TA_Tuple rfl rfl (TA_Name (SN_local (TA_Name (SN_local ?_))))
      refine TS_cons (TS_If (TT_Not (TT.mono (Q := fun b σ₁ => b = !badSign c ∧ σ₁ = σ') ?_ (fun b₀ σ₃ z => ?_) fun _ _ z => z)))
      · refine TT_Chain (EV_int (EV_local rfl (le_ii ⟨_, rfl, ?_⟩)))
        unfold badSign
        by_cases h32 : 32 ≤ c.toNat
        · rw [if_pos (by simp; omega)]
          refine EV_int (le_ii ⟨_, rfl, ?_, rfl⟩)
          have : ((c.toNat : Int) ≤ 126) ↔ c.toNat ≤ 126 := by omega
          simp [h32, this]
        · rw [if_neg (by simp; omega)]
          exact ⟨by simp [h32], rfl⟩
      obtain ⟨rfl, rfl⟩ := z
      cases hbad : badSign c with
      | true =>
        refine TS_cons (TS_Raise (n := n + 9) O.ok (EV_Method (EV_local q1 (rd_meth (f := 188) O s2 (CW_cons (TL_cons (EV_str (TL_cons (EV_BinOp (EV_BinOp (EV_local q2 (EV_int (add_ii (EV_local rfl (add_ii (TL_nil ⟨Kp_K O.ok (O.k (f := fun K => keepIn K _) (by k_is)), OPL_call ?_⟩) )))))))))))))))
        rw [show ((i : Int) + 1 + (k : Int)) = ((i + 1 + k : Nat) : Int) from by push_cast; rfl]
        refine ((rfault_spec (n := n + 5) (j := i + 1 + k) O).mono ?_ fun _ _ z => z)
        rintro v σ₄ ⟨e, d', rfl, p1, p2, p3, rfl⟩
        refine raised O (S := [d]) (P := fun a => a = .tup [.int 0, .int (i + 1 + k : Nat)]) (σ₀ := σ) (X := RXp σ d (pathP b i ahead)) e12 p1 p2 p3 rfl (gone2 e p1) fun ax σ₂ z => ⟨i + 1 + k, ?_, z⟩
        rw [hp, first_bad hc hbad q6]
      | false =>
        refine TS_nil (TS_nil ⟨trivial, q1, q2, q3, q4, rfl, ?_⟩)
        intro c' hc'
        rw [List.take_add_one, hc] at hc'
        rcases List.mem_append.mp hc' with hc' | hc'
        · exact q6 c' hc'
        · simp at hc'; subst hc'; exact hbad
    · subst q5
      have hall : ∀ c ∈ xs, badSign c = false := by
        intro c hc
        refine q6 c ?_
        rw [List.length_range, List.take_of_length_le (by simp)]
        exact hc
      have hnone : xs.findIdx? badSign = none := by rw [List.findIdx?_eq_none_iff]; exact hall
      rw [hnone] at hp
      show TS _ _ _ _ (execs (_ :: _) _) _ _ _
      refine TS_cons (TS_Assign (EV_Method (EV_local q3 (meth_bytes FB.slot_bytes_decode FB.type_bytes_decode (CW_cons (TL_cons (EV_str (TL_nil ⟨Kp_builtin, decode_b ?_ (by simpa using hxl) (SN_local ?_)⟩))))))))
      · intro c hc
        have := hall c (by simpa using hc)
        simp [badSign] at this
        omega
      rw [List.toList_toArray]
      show TS _ _ _ _ (execs (_ :: _) _) _ _ _
      have hret : ∀ (ok : Bool), aheadOk ahead (strOf xs) = ok → (if ok then RQ σ r d b (pathP b i ahead) V.str (.str (strOf xs)) σ' else pathP b i ahead = .error i) := by
        intro ok h
        cases ok with
        | true => rw [if_pos rfl]; exact ⟨strOf xs, i2, by rw [hp]; simp [h], rfl, s2, e12⟩
        | false => rw [if_neg (by simp)]; rw [hp]; simp [h]
      refine TS_cons (TS_If (TT.mono (Q := fun b σ₁ => b = (!aheadOk ahead (strOf xs)) ∧ σ₁ = σ') ?_ (fun b₀ σ₃ z => ?_) fun _ _ z => z))
      · cases ahead with
        | none =>
          refine TT_BoolOp (TT_And (TT_Compare (EV_local q4 (EV_none (isnot_none false (fun h v r => by rw [show v = _ from r]; rfl) ⟨_, rfl, ?_⟩)))))
          rw [if_neg (by simp)]
          exact ⟨rfl, rfl⟩
        | some a =>
          refine TT_BoolOp (TT_And (TT_Compare (EV_local q4 (EV_none (isnot_none true (fun h v r => by obtain ⟨t, rfl⟩ := r; rfl) ⟨_, rfl, ?_⟩)))))
          rw [if_pos rfl]
          refine TT_And (TT_Compare (EV_local rfl (EV_local q4 (le_ss ⟨_, rfl, ?_⟩))))
          have e0 : aheadOk (some a) (strOf xs) = strLt a (strOf xs) := rfl
          show (if (!strLt a (strOf xs)) = true then _ else _)
          cases hlt : strLt a (strOf xs) with
          | true => rw [if_neg (by simp)]; exact ⟨by rw [e0, hlt]; rfl, rfl⟩
          | false => rw [if_pos (by simp)]; exact TT_And_nil ⟨by rw [e0, hlt]; rfl, rfl⟩
      obtain ⟨rfl, rfl⟩ := z
      have hr := hret _ rfl
      cases hok : aheadOk ahead (strOf xs) with
      | true =>
        rw [hok, if_pos rfl] at hr
        rw [if_neg (by simp)]
        refine TS_nil ?_
        show TS _ _ _ _ (execs (_ :: _) _) _ _ _
        exact TS_cons (TS_Return (EV_local rfl hr))
      | false =>
        rw [hok, if_neg (by simp)] at hr
        rw [if_pos (by simp)]
        refine TS_cons (TS_Raise (n := n + 9) O.ok (EV_Method (EV_local q1 (rd_meth (f := 188) O s2 (CW_cons (TL_cons (EV_str (TL_cons (EV_local q2 (TL_nil ⟨Kp_K O.ok (O.k (f := fun K => keepIn K _) (by k_is)), OPL_call ((rfault_spec (n := n + 5) (j := i) O).mono ?_ fun _ _ z => z)⟩))))))))))
        rintro v σ₄ ⟨e, d', rfl, p1, p2, p3, rfl⟩
        exact raised O (S := [d]) (P := fun a => a = .tup [.int 0, .int i]) (σ₀ := σ) (X := RXp σ d (pathP b i ahead)) e12 p1 p2 p3 rfl (gone2 e p1) fun ax σ₂ z => ⟨i, hr, z⟩
  · obtain ⟨j, h1, h2, h3, h4⟩ := z
    refine ⟨j, ?_, h2, h3, e1.trans h4⟩
    unfold pathP; rw [hm]; show bindP (takeP b i1 m) _ = _; rw [h1]; rfl
end
end Mine
end
section
open PySem PySem.W PyProof.Rows PySem.Calls PySem.Spec
set_option Elab.async false
set_option maxRecDepth 100000
set_option maxHeartbeats 0
namespace Mine
section
variable {C : Cx} {σ : Store} {n : Nat} {env : Env} {ε : Loc} {Q : V → Store → Prop} {X : AX → Store → Prop} {QS : Fl → Loc → Store → Prop}
theorem seqrow_spec (O : L1 C) {r d : Addr} {b : List UInt8} {i : Nat} {k : Str} {lo : Int} (s : Rd σ r d b i) (hb : b.length ≤ 1000000) (hk : k ≠ "relative") :
    CALL C (n + 11) (.ref 223) [.obj r, .str k, .int lo] σ (RQ σ r d b (seqRowP b i) fun xs => .bytes xs.toArray) (RXp σ d (seqRowP b i)) := by
  refine CALL_def (names := ["self", "kind", "ahead"]) O.ok (O.k (f := fun K => K.lookup 223) (by k_is)) (O.k (f := fun K => codeIn K _ _) (by k_is)) ?_ (by decide) (by decide) ?_
  · exact all3 fun _ _ _ => rfl
  intro L
  refine TS_cons (TS_If (TT_Compare (EV_local rfl (EV_str (ne_ss ⟨_, rfl, ?_⟩)))))
  rw [if_pos (by simpa using hk)]
  refine TS_cons (TS_Return (EV_Method (EV_local rfl (rd_meth O s (CW_cons (TL_cons (EV_Method (EV_local rfl (rd_meth O s (CW_cons (TL_cons (EV_int (TL_nil ⟨Kp_K O.ok (O.k (f := fun K => keepIn K _) (by k_is)), OPL_call ((count_spec (n := n + 1) (w := 2) O s hb).mono ?_ fun ax σ' z => RXp.sub Ex.refl z)⟩)))))))))))))
  rintro v σ₁ ⟨m, i1, hm, rfl, s1, e1⟩
  refine TL_nil ⟨Kp_K O.ok (O.k (f := fun K => keepIn K _) (by k_is)), OPL_call ((taken_spec (n := n + 3) (m := m) O s1 hb).mono ?_ fun ax σ' z => ?_)⟩
  · rintro v σ₂ ⟨xs, i2, hx, rfl, s2, e2⟩
    exact ⟨xs, i2, by unfold seqRowP; rw [hm]; exact hx, rfl, s2, e1.trans e2⟩
  · obtain ⟨j, h1, h2, h3, h4⟩ := z
    exact ⟨j, by unfold seqRowP; rw [hm]; exact h1, h2, h3, e1.trans h4⟩
theorem relrow_spec (O : L1 C) {r d : Addr} {b : List UInt8} {i lo : Nat} (s : Rd σ r d b i) (hb : b.length ≤ 1000000) :
    CALL C (n + 11) (.ref 223) [.obj r, .str "relative", .int lo] σ (RQ σ r d b (relRowP b i lo) fun p => .tup [.int p.1, .bytes p.2.toArray]) (RXp σ d (relRowP b i lo)) := by
  refine CALL_def (names := ["self", "kind", "ahead"]) O.ok (O.k (f := fun K => K.lookup 223) (by k_is)) (O.k (f := fun K => codeIn K _ _) (by k_is)) ?_ (by decide) (by decide) ?_
  · exact all3 fun _ _ _ => rfl
  intro L
  refine TS_cons (TS_If (TT_Compare (EV_local rfl (EV_str (ne_ss ⟨_, rfl, ?_⟩)))))
  rw [if_neg (by simp)]
  refine TS_nil ?_
  show TS _ _ _ _ (execs (_ :: _) _) _ _ _
  refine TS_cons (TS_Assign (EV_Attr (EV_local rfl (rd_at O s (SN_local ?_)))))
  show TS _ _ _ _ (execs (_ :: _) _) _ _ _
  refine TS_cons (TS_Assign (EV_Method (EV_local rfl (rd_meth O s (CW_cons (TL_cons (EV_int (TL_nil ⟨Kp_K O.ok (O.k (f := fun K => keepIn K _) (by k_is)), OPL_call ((count_spec (n := n + 1) (w := 4) O s hb).mono ?_ fun ax σ' z => RXp.sub Ex.refl z)⟩))))))))
  rintro v σ₁ ⟨k, i1, hm, rfl, s1, e1⟩
  refine SN_local ?_
  show TS _ _ _ _ (execs (_ :: _) _) _ _ _
  refine TS_cons (TS_If (TT_Compare (EV_local rfl (EV_local rfl (le_ii ⟨_, rfl, ?_⟩)))))
  have hp : relRowP b i lo = if k ≤ lo then .error i else bindP (seqRowP b i1) fun xs i2 => .ok ((k, xs), i2) := by unfold relRowP; rw [hm]; rfl
  by_cases hle : k ≤ lo
  · rw [if_pos (by simp; omega)]
    rw [if_pos hle] at hp
    refine TS_cons (TS_Raise (n := n + 9) O.ok (EV_Method (EV_local rfl (rd_meth (f := 188) O s1 (CW_cons (TL_cons (EV_str (TL_cons (EV_local rfl (TL_nil ⟨Kp_K O.ok (O.k (f := fun K => keepIn K _) (by k_is)), OPL_call ((rfault_spec (n := n + 5) (j := i) O).mono ?_ fun _ _ z => z)⟩))))))))))
    rintro v σ₄ ⟨e, d', rfl, p1, p2, p3, rfl⟩
    refine raised O (S := [d]) (P := fun a => a = .tup [.int 0, .int i]) (σ₀ := σ) (X := RXp σ d (relRowP b i lo)) e1 p1 p2 p3 rfl (e1.gone p1 ?_) fun ax σ₂ z => ⟨i, hp, z⟩
    intro q
    rw [List.mem_singleton] at q; rw [q, s1.d] at p1; cases p1
  · rw [if_neg (by simp; omega)]
    rw [if_neg hle] at hp
    refine TS_nil ?_
    show TS _ _ _ _ (execs (_ :: _) _) _ _ _
    have hX : ∀ {ax : AX} {σ' : Store}, RXp σ₁ d (seqRowP b i1) ax σ' → RXp σ d (relRowP b i lo) ax σ' := by
      rintro ax σ' ⟨j, h1, h2, h3, h4⟩
      exact ⟨j, by rw [hp, h1]; rfl, h2, h3, e1.trans h4⟩
    refine TS_cons (TS_Return (EV_Tuple (TL_cons (EV_local rfl (TL_cons (EV_Method (EV_local rfl (rd_meth O s1 (CW_cons (TL_cons (EV_Method (EV_local rfl (rd_meth O s1 (CW_cons (TL_cons (EV_int (TL_nil ⟨Kp_K O.ok (O.k (f := fun K => keepIn K _) (by k_is)), OPL_call ((count_spec (n := n + 1) (w := 2) O s1 hb).mono ?_ fun ax σ' z => hX (RXp.sub Ex.refl z))⟩)))))))))))))))))
    rintro v σ₂ ⟨m, i2, hm2, rfl, s2, e2⟩
    refine TL_nil ⟨Kp_K O.ok (O.k (f := fun K => keepIn K _) (by k_is)), OPL_call ((taken_spec (n := n + 3) (m := m) O s2 hb).mono ?_ fun ax σ' z => ?_)⟩
    · rintro v σ₃ ⟨xs, i3, hx, rfl, s3, e3⟩
      refine TL_nil ⟨by simp, (k, xs), i3, ?_, rfl, s3, (e1.trans e2).trans e3⟩
      rw [hp]; unfold seqRowP; rw [hm2]; show bindP (takeP b i2 m) _ = _; rw [hx]; rfl
    · obtain ⟨j, h1, h2, h3, h4⟩ := z
      exact hX ⟨j, by unfold seqRowP; rw [hm2]; exact h1, h2, h3, e2.trans h4⟩
inductive RdrQ (σ : Store) (b : List UInt8) (r : V) (σ' : Store) : Prop
  | mk (x d : Addr) (h1 : r = .obj x) (h2 : σ x = none) (h3 : σ d = none) (h4 : Rd σ' x d b 0) (h5 : Ex [] σ σ')
theorem reader_spec (O : L1 C) {b : List UInt8} : CALL C (n + 3) (.ref 226) [.bytes b.toArray] σ (RdrQ σ b) X := by
  refine CALL_make O.ok (O.k (f := fun K => makesIn K 226) (by k_is)) (O.k (f := fun K => findIn K _ _) (by k_is)) (O.k (f := fun K => isFn K _) (by k_is)) fun x d hx hd hne => ?_
  refine CALL_def (names := ["self", "octets"]) O.ok (O.k (f := fun K => K.lookup 181) (by k_is)) (O.k (f := fun K => codeIn K _ _) (by k_is)) ?_ (by decide) (by decide) ?_
  · exact all2 fun _ _ => rfl
  intro L
  refine TS_cons (TS_SetAttr O.ok (EV_local rfl (EV_local rfl ?_)))
  refine ⟨x, 226, d, [], rfl, by rw [upd_self], by rw [upd_ne _ _ (Ne.symm hne), upd_self], by simp, O.k (f := fun K => findIn K _ _) (by k_is), O.k (f := fun K => plainOver K _) (by k_is), O.k (f := fun K => takerIn K _ _) (by k_is), O.k (f := fun K => hasDictIn K _) (by k_is), ?_⟩
  show TS _ _ _ _ (execs (_ :: _) _) _ _ _
  refine TS_cons (TS_SetAttr O.ok (EV_int (EV_local rfl ?_)))
  refine ⟨x, 226, d, _, rfl, by rw [upd_ne _ _ hne, upd_self], upd_self _ _ _, by simp [putA], O.k (f := fun K => findIn K _ _) (by k_is), O.k (f := fun K => plainOver K _) (by k_is), O.k (f := fun K => takerIn K _ _) (by k_is), O.k (f := fun K => hasDictIn K _) (by k_is), ?_⟩
  refine TS_nil ⟨rfl, x, d, rfl, hx, hd, ⟨?_, ?_⟩, ?_⟩
  · rw [upd_ne _ _ hne, upd_ne _ _ hne, upd_self]
  · rw [upd_self]; rfl
  · intro a o e _
    have n1 : a ≠ d := fun q => by rw [q, hd] at e; cases e
    have n2 : a ≠ x := fun q => by rw [q, hx] at e; cases e
    rw [upd_ne _ _ n1, upd_ne _ _ n1, upd_ne _ _ n2, upd_ne _ _ n1]; exact e
end
end Mine
end
section
open PySem PySem.W PyProof.Rows PySem.Calls PySem.Spec
set_option Elab.async false
set_option maxRecDepth 100000
set_option maxHeartbeats 0
namespace Mine
def rowG (rel : Bool) (b : List UInt8) (i lo : Nat) : PR (Nat × List UInt8) := if rel then relRowP b i lo else bindP (seqRowP b i) fun xs i' => .ok ((0, xs), i')
def rowVG (rel : Bool) (x : Nat × List UInt8) : V := if rel then .tup [.int x.1, .bytes x.2.toArray] else .bytes x.2.toArray
def rowsG (rel : Bool) (b : List UInt8) : Nat → Nat → Nat → PR (List (Nat × List UInt8))
  | 0, i, _ => .ok ([], i)
  | k + 1, i, lo => bindP (rowG rel b i lo) fun x i' => bindP (rowsG rel b k i' x.1) fun xs i'' => .ok (x :: xs, i'')
def relRowsOf (rows : List (Nat × List UInt8)) : List (Int × Array UInt8) := rows.map fun x => ((x.1 : Int), x.2.toArray)
def contG (rel : Bool) (rows : List (Nat × List UInt8)) : Cont := if rel then .rel (relOf (relRowsOf rows)) else .seq (rows.map fun x => x.2.toArray)
def isRel (k : Str) : Bool := decide (k = "relative")
def fileP (b : List UInt8) (i : Nat) (ahead : Option Str) : PR (Str × (Str × Cont)) := bindP (kindP b i) fun k i1 => bindP (pathP b i1 ahead) fun p i2 => bindP (countP b i2 4) fun n i3 => bindP (rowsG (isRel k) b n i3 0) fun rs i4 => .ok ((p, (k, contG (isRel k) rs)), i4)
def readP (b : List UInt8) : Nat → Nat → Option Str → Files → Except Nat Files
  | 0, _, _, acc => .ok acc
  | f + 1, i, ahead, acc => if i < b.length then (match fileP b i ahead with
    | .error j => .error j
    | .ok (x, i') => readP b f i' (some x.1) (stB acc x.1 x.2)) else .ok acc
def readAll (b : List UInt8) : Except Nat Files := readP b (b.length + 1) 0 none []
theorem bindP_pure {α : Type} (p : PR (List α)) : (bindP p fun xs j => .ok ([] ++ xs, j)) = p := by
  rcases p with e | ⟨a, i⟩ <;> rfl
theorem bindP_assoc {α β γ : Type} (p : PR α) (f : α → Nat → PR β) (h : β → Nat → PR γ) : bindP (bindP p f) h = bindP p fun a i => bindP (f a i) h := by
  unfold bindP; rcases p with e | ⟨a, i⟩ <;> rfl
theorem bindP_ok {α β : Type} {p : PR α} {f : α → Nat → PR β} {y : β} {j : Nat} (h : bindP p f = .ok (y, j)) : ∃ x i, p = .ok (x, i) ∧ f x i = .ok (y, j) := by
  rcases p with e | ⟨x, i⟩
  · cases h
  · exact ⟨x, i, rfl, h⟩
theorem countP_ok {b : List UInt8} {i w k i' : Nat} (h : countP b i w = .ok (k, i')) : i' = i + w ∧ i + w ≤ b.length ∧ k = num ((b.drop i).take w) := by
  rw [countP_eq] at h
  obtain ⟨xs, j, h1, h2⟩ := bindP_ok h
  obtain ⟨a1, a2, a3, a4⟩ := takeP_ok h1
  cases h2
  exact ⟨a2, a3, by rw [a1]⟩
theorem seqRowP_ok {b : List UInt8} {i i' : Nat} {xs : List UInt8} (h : seqRowP b i = .ok (xs, i')) : i + 2 ≤ i' ∧ i' ≤ b.length ∧ xs.length + i + 2 = i' := by
  obtain ⟨n, i1, h1, h2⟩ := bindP_ok h
  obtain ⟨a1, a2, a3⟩ := countP_ok h1
  obtain ⟨b1, b2, b3, b4⟩ := takeP_ok h2
  omega
theorem relRowP_ok {b : List UInt8} {i lo i' : Nat} {x : Nat × List UInt8} (h : relRowP b i lo = .ok (x, i')) : i + 6 ≤ i' ∧ i' ≤ b.length ∧ lo < x.1 := by
  obtain ⟨k, i1, h1, h2⟩ := bindP_ok h
  obtain ⟨a1, a2, a3⟩ := countP_ok h1
  split at h2
  · cases h2
  · obtain ⟨xs, i2, h3, h4⟩ := bindP_ok h2
    cases h4
    obtain ⟨b1, b2, b3⟩ := seqRowP_ok h3
    refine ⟨by omega, b2, ?_⟩
    show lo < k; omega
theorem rowG_ok {rel : Bool} {b : List UInt8} {i lo i' : Nat} {x : Nat × List UInt8} (h : rowG rel b i lo = .ok (x, i')) : i + 2 ≤ i' ∧ i' ≤ b.length ∧ (rel = true → lo < x.1) ∧ (rel = false → x.1 = 0) := by
  cases rel with
  | true => obtain ⟨a1, a2, a3⟩ := relRowP_ok h; exact ⟨by omega, a2, fun _ => a3, nofun⟩
  | false =>
    obtain ⟨xs, j, h1, h2⟩ := bindP_ok (show bindP (seqRowP b i) _ = _ from h)
    cases h2
    obtain ⟨a1, a2, a3⟩ := seqRowP_ok h1
    exact ⟨a1, a2, nofun, fun _ => rfl⟩
theorem num_lt (xs : List UInt8) : num xs < 256 ^ xs.length := by
  have : ∀ (xs : List UInt8) (a : Nat), xs.foldl (fun a o => a * 256 + o.toNat) a < (a + 1) * 256 ^ xs.length := by
    intro xs
    induction xs with
    | nil => intro a; simp
    | cons x xs ih =>
      intro a
      have h1 := ih (a * 256 + x.toNat)
      have h2 := x.toNat_lt
      rw [List.foldl_cons, List.length_cons, Nat.pow_succ, Nat.mul_comm (256 ^ xs.length) 256, ← Nat.mul_assoc]
      exact Nat.lt_of_lt_of_le h1 (Nat.mul_le_mul_right _ (by omega))
  simpa [num] using this xs 0
theorem Ex.freshs {S : List Addr} {σ σ₁ σ' : Store} (h : Ex [] σ σ₁) (h' : Ex S σ₁ σ') (hc : ∀ c ∈ S, σ c = none) : Ex [] σ σ' := fun a o e q =>
  h' a o (h a o e q) fun z => by rw [hc a z] at e; cases e
theorem kindP_ok {b : List UInt8} {i i' : Nat} {k : Str} (h : kindP b i = .ok (k, i')) : k ∈ kinds ∧ i' = i + 1 ∧ i + 1 ≤ b.length := by
  obtain ⟨xs, j, h1, h2⟩ := bindP_ok h
  obtain ⟨a1, a2, a3, a4⟩ := takeP_ok h1
  split at h2
  · rename_i k' hk
    cases h2
    refine ⟨?_, a2, a3⟩
    unfold kindOf at hk
    split at hk
    · cases hk; decide
    · split at hk
      · cases hk; decide
      · split at hk
        · cases hk; decide
        · cases hk
  · cases h2
theorem pathP_ok {b : List UInt8} {i i' : Nat} {ahead : Option Str} {p : Str} (h : pathP b i ahead = .ok (p, i')) : i + 1 ≤ i' ∧ i' ≤ b.length := by
  obtain ⟨n, i1, h1, h2⟩ := bindP_ok h
  obtain ⟨xs, i2, h3, h4⟩ := bindP_ok h2
  obtain ⟨a1, a2, a3⟩ := countP_ok h1
  obtain ⟨b1, b2, b3, b4⟩ := takeP_ok h3
  split at h4
  · cases h4
  · split at h4
    · cases h4; omega
    · cases h4
section
variable {C : Cx} {σ : Store} {n : Nat} {env : Env} {ε : Loc} {Q : V → Store → Prop} {X : AX → Store → Prop} {QS : Fl → Loc → Store → Prop}
inductive RdQ (σ : Store) (b : List UInt8) (v : V) (σ' : Store) : Prop
  | mk (x D : Addr) (fs : Files) (h1 : v = .obj x) (h2 : readAll b = .ok fs) (h3 : SHx σ' x D fs) (h4 : σ x = none) (h5 : σ D = none) (h6 : Ex [] σ σ')
inductive RdX (σ : Store) (b : List UInt8) (ax : AX) (σ' : Store) : Prop
  | mk (j : Nat) (h1 : readAll b = .error j) (h2 : FltAt j [] σ ax σ')
theorem row_spec (O : L1 C) {r d : Addr} {b : List UInt8} {i lo : Nat} {k : Str} (s : Rd σ r d b i) (hb : b.length ≤ 1000000) :
    CALL C (n + 11) (.ref 223) [.obj r, .str k, .int lo] σ (RQ σ r d b (rowG (isRel k) b i lo) (rowVG (isRel k))) (RXp σ d (rowG (isRel k) b i lo)) := by
  by_cases hk : k = "relative"
  · subst hk
    exact relrow_spec O s hb
  · have : isRel k = false := by simp [isRel, hk]
    rw [this]
    refine (seqrow_spec (n := n) (lo := lo) O s hb hk).mono ?_ fun ax σ' z => RXp.sub Ex.refl z
    rintro v σ' ⟨xs, i', h1, rfl, h3, h4⟩
    exact ⟨(0, xs), i', by show bindP (seqRowP b i) _ = _; rw [h1]; rfl, rfl, h3, h4⟩
theorem rdx {α : Type} {σ σk σ' : Store} {d : Addr} {b : List UInt8} {p : PR α} {ax : AX} (e : Ex [] σ σk) (hd : σ d = none) (h : ∀ j, p = .error j → readAll b = .error j) (z : RXp σk d p ax σ') : RdX σ b ax σ' := by
  obtain ⟨j, h1, h2, h3, h4⟩ := z
  exact ⟨j, h j h1, h2, h3, e.freshs h4 (by simpa using hd)⟩
theorem SHx.rd {σ σ' : Store} {x D r d : Addr} {b : List UInt8} {i : Nat} {fs : Files} {S : List Addr} (h : SHx σ x D fs) (s : Rd σ r d b i) (e : Ex S σ σ') (hS : ∀ c ∈ S, c = d ∨ σ c = none) : SHx σ' x D fs := by
  refine h.ex e fun c hc => ?_
  obtain ⟨_, _, _, _, _, h3, _⟩ := h
  rcases hS c hc with rfl | q
  · exact ⟨fun q => (by have := s.d; rw [q, h3] at this; cases this), .inr (.inr ⟨_, _, s.d⟩)⟩
  · exact ⟨fun z => (by rw [z, h3] at q; cases q), .inl q⟩
inductive RdI (σ : Store) (b : List UInt8) (r d x D : Addr) (k : Nat) (ε : Loc) (σ' : Store) : Prop
  | mk (q1 : ε.lookup ("octets" : Str) = some (.bytes b.toArray)) (q2 : ε.lookup ("reader" : Str) = some (.obj r)) (q3 : ε.lookup ("found" : Str) = some (.obj x)) (i : Nat) (ahead : Option Str) (acc : Files) (q4 : ε.lookup ("ahead" : Str) = some (aheadV ahead)) (q5 : Rd σ' r d b i) (q6 : SHx σ' x D acc) (q7 : Ex [] σ σ') (q8 : b.length - i < k) (q9 : i ≤ b.length) (q10 : acc.length * 2 ≤ i) (q11 : readP b k i ahead acc = readAll b)
inductive RwI (b : List UInt8) (r d x l : Addr) (σ₄ : Store) (kd p : Str) (nn i3 : Nat) (t : Nat) (ε : Loc) (σ' : Store) : Prop
  | mk (w1 : ε.lookup ("octets" : Str) = some (.bytes b.toArray)) (w2 : ε.lookup ("reader" : Str) = some (.obj r)) (w3 : ε.lookup ("found" : Str) = some (.obj x)) (w4 : ε.lookup ("kind" : Str) = some (.str kd)) (w5 : ε.lookup ("path" : Str) = some (.str p)) (w6 : ε.lookup ("rows" : Str) = some (.obj l)) (lo i' : Nat) (rs : List (Nat × List UInt8)) (w7 : ε.lookup ("last" : Str) = some (.int (lo : Nat))) (w8 : σ' l = some (.list (rs.map (rowVG (isRel kd))))) (w9 : Rd σ' r d b i') (w10 : Ex [d, l] σ₄ σ') (w11 : rs.length * 2 ≤ i') (w12 : i3 ≤ i') (w13 : i' ≤ b.length) (w14 : rowsG (isRel kd) b nn i3 0 = (bindP (rowsG (isRel kd) b (nn - t) i' lo) fun xs j => .ok (rs ++ xs, j))) (w15 : isRel kd = true → ∀ y ∈ rs, 1 ≤ y.1)
theorem read_spec (O : L1 C) {b : List UInt8} (hb : b.length ≤ 1900) : CALL C (n + 14) (.ref 237) [.bytes b.toArray] σ (RdQ σ b) (RdX σ b) := by
  refine CALL_def (names := ["octets"]) O.ok (O.k (f := fun K => K.lookup 237) (by k_is)) (O.k (f := fun K => codeIn K _ _) (by k_is)) ?_ (by decide) (by decide) ?_
  · exact all1 fun _ => rfl
  intro L
  refine TS_cons (TS_AssignSwap (names := ["reader", "found", "ahead"]) (EV_Tuple (TL_cons (gc O (TL_cons (EV_local rfl (TL_nil ((reader_spec (n := n + 10) O).mono ?_ fun _ _ z => z))))))))
  rintro v σ₁ ⟨r, d, rfl, hr, hd, s1, e1⟩
  refine TL_cons (gc0 O ((new_spec (n := n + 10) O).mono ?_ fun _ _ z => z))
  rintro v σ₂ ⟨x, D, rfl, hx, hD, sh, e2⟩
  refine TL_cons (EV_none (TL_nil ⟨by simp, _, rfl, rfl, TA_bind (SN_local (TA_bind (SN_local (TA_bind (SN_local ?_)))))⟩))
  have s2 : Rd σ₂ r d b 0 := s1.ex e2
  have hx0 : σ x = none := e1.gone hx
  have hD0 : σ D = none := e1.gone hD
  show TS _ _ _ _ (execs (_ :: _) _) _ _ _
  refine TS_cons (TS_While (RdI σ b r d x D) rfl (fun k ε σ' ⟨q1, q2, q3, i, ahead, acc, q4, q5, q6, q7, q8, q9, q10, q11⟩ => ?_) (b.length + 1) ⟨rfl, rfl, rfl, 0, none, [], rfl, s2, sh, e1.trans e2, by omega, by omega, by simp, rfl⟩)
  refine TT_Compare (EV_Attr (EV_local q2 (rd_at O q5 (bc O (TL_cons (EV_local q1 (TL_nil (len_b (by simp; omega) (lt_ii ⟨_, rfl, ?_⟩)))))))))
  have hsz : (b.toArray.size : Int) = b.length := by simp
  rw [hsz]
  obtain ⟨k, rfl⟩ : ∃ k', k = k' + 1 := ⟨k - 1, by omega⟩
  by_cases hlt : i < b.length
  · rw [if_pos (by simpa using hlt)]
    have hfail : ∀ j, fileP b i ahead = .error j → readAll b = .error j := fun j h => by rw [← q11]; unfold readP; rw [if_pos hlt, h]
    have hd0 : σ d = none := hd
    refine TS_cons (TS_Assign (EV_Method (EV_local q2 (rd_meth O q5 (CW_nil (Kp_K O.ok (O.k (f := fun K => keepIn K _) (by k_is))) (OPL_call ((kind_spec (n := n + 4) O q5 (by omega)).mono ?_ fun ax σ₃ z => rdx q7 hd0 (fun j h => hfail j (by unfold fileP; rw [h]; rfl)) z)))))))
    rintro v σ₃ ⟨kd, i1, hk, rfl, s3, e3⟩
    have sh3 := q6.rd q5 e3 (by simp)
    have f3 : Ex [] σ σ₃ := q7.freshs e3 (by simpa using hd0)
    refine SN_local ?_
    show TS _ _ _ _ (execs (_ :: _) _) _ _ _
    refine TS_cons (TS_Assign (EV_Method (EV_local q2 (rd_meth O s3 (CW_cons (TL_cons (EV_local q4 (TL_nil ⟨Kp_K O.ok (O.k (f := fun K => keepIn K _) (by k_is)), OPL_call ((rpath_spec (n := n + 2) O s3 (by omega)).mono ?_ fun ax σ₄ z => rdx f3 hd0 (fun j h => hfail j (by unfold fileP; rw [hk]; show bindP (pathP b i1 ahead) _ = _; rw [h]; rfl)) z)⟩))))))))
    rintro v σ₄ ⟨p, i2, hp, rfl, s4, e4⟩
    have sh4 := sh3.rd s3 e4 (by simp)
    have f4 : Ex [] σ σ₄ := f3.freshs e4 (by simpa using hd0)
    refine SN_local ?_
    show TS _ _ _ _ (execs (_ :: _) _) _ _ _
    refine TS_cons (TS_AssignSwap (names := ["rows", "last"]) (EV_Tuple (TL_cons (EV_List (TL_nil ⟨by simp, fun l hl => ?_⟩)))))
    refine TL_cons (EV_int (TL_nil ⟨by simp, _, rfl, rfl, TA_bind (SN_local (TA_bind (SN_local ?_)))⟩))
    show TS _ _ _ _ (execs (_ :: _) _) _ _ _
    have hl0 : σ l = none := f4.gone hl
    have hlr : l ≠ r := fun q => by rw [q, s4.r] at hl; cases hl
    have hld : l ≠ d := fun q => by rw [q, s4.d] at hl; cases hl
    have s5 : Rd (upd σ₄ l (.list [])) r d b i2 := ⟨by rw [upd_ne _ _ (Ne.symm hlr)]; exact s4.r, by rw [upd_ne _ _ (Ne.symm hld)]; exact s4.d⟩
    have e5 : Ex [d, l] σ₄ (upd σ₄ l (.list [])) := Ex.set (by simp)
    have f5 : Ex [] σ (upd σ₄ l (.list [])) := f4.trans (Ex.new hl)
    refine TS_cons (TS_For_it rfl (IT_range (bl O ⟨rfl, rfl⟩) (TL_cons (EV_Method (EV_local q2 (rd_meth O s5 (CW_cons (TL_cons (EV_int (TL_nil ⟨Kp_K O.ok (O.k (f := fun K => keepIn K _) (by k_is)), OPL_call ((count_spec (n := n + 4) (w := 4) O s5 (by omega)).mono ?_ fun ax σ₆ z => rdx f5 hd0 (fun j h => hfail j (by unfold fileP; rw [hk]; show bindP (pathP b i1 ahead) _ = _; rw [hp]; show bindP (countP b i2 4) _ = _; rw [h]; rfl)) z)⟩))))))))))
    rintro v σ₆ ⟨nn, i3, hn, rfl, s6, e6⟩
    obtain ⟨hn1, hn2, hn3⟩ := countP_ok hn
    have hnlt : nn < 4294967296 := by
      have := num_lt ((b.drop i2).take 4)
      rw [← hn3, List.length_take, List.length_drop, show min 4 (b.length - i2) = 4 from by omega] at this
      exact this
    have e46 : Ex [d, l] σ₄ σ₆ := e5.trans (e6.mono (by simp))
    refine TL_nil ⟨0, _, 1, nn, .inl ⟨rfl, rfl, rfl⟩, small_nat (by omega), size_nat _, ?_⟩
    have hrows : ∀ j, rowsG (isRel kd) b nn i3 0 = .error j → readAll b = .error j := fun j h => hfail j (by unfold fileP; rw [hk]; show bindP (pathP b i1 ahead) _ = _; rw [hp]; show bindP (countP b i2 4) _ = _; rw [hn]; show bindP (rowsG (isRel kd) b nn i3 0) _ = _; rw [h]; rfl)
    rw [upto_map]
    have hl6 : σ₆ l = some (.list []) := e6 _ _ (upd_self _ _ _) (by simpa using hld)
    refine ForW_each (RwI b r d x l σ₄ kd p nn i3) _ _ (fun t t' ht ε σ' ⟨w1, w2, w3, w4, w5, w6, lo, i', rs, w7, w8, w9, w10, w11, w12, w13, w14, w15⟩ => ?_) (fun ε σ' ⟨w1, w2, w3, w4, w5, w6, lo, i', rs, w7, w8, w9, w10, w11, w12, w13, w14, w15⟩ => ?_) ⟨q1, q2, q3, rfl, rfl, rfl, 0, i3, [], rfl, hl6, s6, e46, by simp, by omega, by omega, by rw [Nat.sub_zero]; exact (bindP_pure _).symm, by simp⟩
    · have htn : t < nn := by simpa using (List.getElem?_eq_some_iff.mp ht).1
      obtain ⟨m, hm⟩ : ∃ m, nn - t = m + 1 := ⟨nn - t - 1, by omega⟩
      have hm' : nn - (t + 1) = m := by omega
      have g : Ex [] σ σ' := f4.freshs w10 (by simp [hd0, hl0])
      rw [hm] at w14
      have w14' : rowsG (isRel kd) b nn i3 0 = bindP (rowG (isRel kd) b i' lo) fun x i'' => bindP (rowsG (isRel kd) b m i'' x.1) fun xs j => .ok (rs ++ (x :: xs), j) := by
        rw [w14]
        show bindP (bindP (rowG (isRel kd) b i' lo) _) _ = _
        rw [bindP_assoc]
        congr 1
        funext x i''
        rw [bindP_assoc]
        congr 1
      refine TA_Name (SN_local (TS_cons (TS_Assign (EV_Method (EV_local w2 (rd_meth O w9 (CW_cons (TL_cons (EV_local w4 (TL_cons (EV_local w7 (TL_nil ⟨Kp_K O.ok (O.k (f := fun K => keepIn K _) (by k_is)), OPL_call ((row_spec (n := n + 2) O w9 (by omega)).mono ?_ fun ax σ₇ z => rdx g hd0 (fun j h => hrows j (by rw [w14', h]; rfl)) z)⟩))))))))))))
      rintro v σ₇ ⟨x', i'', hx', rfl, s7, e7⟩
      obtain ⟨y1, y2, y3, y4⟩ := rowG_ok hx'
      refine SN_local ?_
      show TS _ _ _ _ (execs (_ :: _) _) _ _ _
      refine TS_cons (TS_Assign (TV.mono (Q := fun v σ₈ => v = .int (x'.1 : Nat) ∧ σ₈ = σ₇) ?_ (fun v σ₈ z => ?_) fun _ _ z => z))
      · refine EV_IfExp (TT_Compare (EV_local w4 (EV_str (eq_ss ⟨_, rfl, ?_⟩))))
        show (if isRel kd = true then _ else _)
        cases hrel : isRel kd with
        | true =>
          rw [if_pos rfl]
          exact EV_Sub (EV_local rfl (EV_int (sub_tup (j := 0) rfl rfl ⟨rfl, rfl⟩)))
        | false =>
          rw [if_neg (by simp)]
          exact EV_int ⟨by rw [y4 hrel]; rfl, rfl⟩
      obtain ⟨rfl, rfl⟩ := z
      refine SN_local ?_
      show TS _ _ _ _ (execs (_ :: _) _) _ _ _
      have l7 : σ₈ l = some (.list (rs.map (rowVG (isRel kd)))) := e7 _ _ w8 (by simpa using hld)
      refine TS_cons (TS_Expr (EV_Method (EV_local w6 (meth_list slot_list_append type_list_append l7 (CW_cons (TL_cons (EV_local rfl (TL_nil ⟨Kp_builtin, append_l l7 (by simp; omega) ?_⟩))))))))
      have e9 : Ex [d, l] σ₄ (upd σ₈ l (.list (rs.map (rowVG (isRel kd)) ++ [rowVG (isRel kd) x']))) := (w10.trans (e7.mono (by simp))).trans (Ex.set (by simp))
      refine TS_nil ⟨trivial, w1, w2, w3, w4, w5, w6, x'.1, i'', rs ++ [x'], rfl, ?_, ⟨?_, ?_⟩, e9, ?_, by omega, y2, ?_, ?_⟩
      · rw [upd_self]; simp
      · rw [upd_ne _ _ (Ne.symm hlr)]; exact s7.r
      · rw [upd_ne _ _ (Ne.symm hld)]; exact s7.d
      · simp; omega
      · rw [hm', w14', hx']
        show bindP (rowsG (isRel kd) b m i'' x'.1) _ = _
        congr 1
        funext xs j
        simp
      · intro hrel y hy
        rcases List.mem_append.mp hy with hy | hy
        · exact w15 hrel y hy
        · simp at hy; subst hy; have := y3 hrel; omega
    · have hlen : (List.range nn).length = nn := by simp
      rw [hlen, Nat.sub_self] at w14
      have hfile : fileP b i ahead = .ok ((p, (kd, contG (isRel kd) rs)), i') := by
        unfold fileP; rw [hk]; show bindP (pathP b i1 ahead) _ = _; rw [hp]; show bindP (countP b i2 4) _ = _; rw [hn]; show bindP (rowsG (isRel kd) b nn i3 0) _ = _; rw [w14]
        show Except.ok _ = _
        simp
      obtain ⟨hk1, hk2, hk3⟩ := kindP_ok hk
      have sh' : SHx σ' x D acc := sh4.rd s4 w10 (by intro c hc; simp at hc; rcases hc with rfl | rfl; exact .inl rfl; exact .inr hl)
      have f' : Ex [] σ σ' := f4.freshs w10 (by simp [hd0, hl0])
      have hnext : readP b k i' (some p) (stB acc p (kd, contG (isRel kd) rs)) = readAll b := by
        rw [← q11]; show _ = readP b (k + 1) i ahead acc; conv => rhs; unfold readP
        rw [if_pos hlt, hfile]
      have hal := stB_length acc p (kd, contG (isRel kd) rs)
      have hi2 : i2 ≤ i3 := by omega
      obtain ⟨_, hp2⟩ := pathP_ok hp
      have fin : ∀ (v : V) σ₉, SHx σ₉ x D (stB acc p (kd, contG (isRel kd) rs)) → Ex [D] σ' σ₉ → ∃ σ₁₀, σ₁₀ = σ₉ ∧ Rd σ₉ r d b i' ∧ Ex [] σ σ₉ := by
        intro v σ₉ z1 z2
        obtain ⟨_, _, _, _, _, hD3, _⟩ := sh'
        exact ⟨_, rfl, w9.ex z2 (by simp; intro q; have := w9.r; rw [q, hD3] at this; cases this) (by simp; intro q; have := w9.d; rw [q, hD3] at this; cases this), f'.freshs z2 (by simpa using hD0)⟩
      obtain ⟨d', _, _, hx1, hx2, _, _⟩ := id sh'
      show TS _ _ _ _ (execs (_ :: _) _) _ _ _
      refine TS_cons (TS_Expr (EV_Method (EV_local w3 (sh_meth (f := 110) O hx1 hx2 (CW_cons (TL_cons (EV_local w5 (TL_cons (EV_local w4 (TL_cons (EV_local w6 (TL_nil ⟨Kp_K O.ok (O.k (f := fun K => keepIn K _) (by k_is)), OPL_call (CALL.mono (Q := fun v σ₉ => SHx σ₉ x D (stB acc p (kd, contG (isRel kd) rs)) ∧ Ex [D] σ' σ₉) (X := fun _ _ => False) ?_ (fun v σ₉ z => ?_) fun _ _ z => z.elim)⟩))))))))))))
      · by_cases hrel : kd = "relative"
        · have hr : isRel kd = true := by simp [isRel, hrel]
          rw [hr] at w8 w15 ⊢
          subst hrel
          refine (lay_rel_spec (n := n + 5) (P := fun _ => True) (rows := relRowsOf rs) O sh' (by omega) (.inl ⟨l, rfl, ?_⟩) (by simp [relRowsOf]; omega) trivial).mono (fun v σ₉ z => ⟨z.2.2.1, z.2.2.2⟩) fun ax σ₉ z => absurd ?_ z.1
          · rw [w8]; unfold relRowsOf; rw [List.map_map]; rfl
          · intro y hy
            unfold relRowsOf at hy
            obtain ⟨z, hz, rfl⟩ := List.mem_map.mp hy
            have := w15 rfl z hz
            show (1 : Int) ≤ (z.1 : Int); omega
        · have hr : isRel kd = false := by simp [isRel, hrel]
          rw [hr] at w8 ⊢
          refine (lay_other_spec (n := n + 5) (P := fun _ => True) (k := kd) (rows := rs.map fun (x : Nat × List UInt8) => x.2.toArray) O sh' (by omega) ?_ (.inl ⟨l, rfl, ?_⟩) (by simp; omega) hrel trivial).mono (fun v σ₉ z => ⟨z.2.2.1, z.2.2.2⟩) fun ax σ₉ z => absurd hk1 z.1
          · have : ∀ k ∈ kinds, k.length ≤ 1000 := by decide
            exact this _ hk1
          · rw [w8, List.map_map]; rfl
      obtain ⟨z1, z2⟩ := z
      obtain ⟨_, _, z3, z4⟩ := fin v σ₉ z1 z2
      show TS _ _ _ _ (execs (_ :: _) _) _ _ _
      refine TS_cons (TS_Assign (EV_local w5 (SN_local (TS_nil ⟨k, by omega, w1, w2, w3, i', some p, _, rfl, z3, z1, z4, by omega, w13, by omega, hnext⟩))))
  · rw [if_neg (by simpa using hlt)]
    show TS _ _ _ _ (execs (_ :: _) _) _ _ _
    refine TS_cons (TS_Return (EV_local q3 ⟨x, D, acc, rfl, ?_, q6, hx0, hD0, q7⟩))
    rw [← q11]; unfold readP; rw [if_neg hlt]
end
end Mine
end
section
open PySem PySem.W PyProof.Rows PySem.Calls PySem.Spec
set_option Elab.async false
set_option maxRecDepth 100000
set_option maxHeartbeats 0
namespace Mine
theorem pow_cast (a k : Nat) : (a : Int) ^ k = ((a ^ k : Nat) : Int) := (Int.natCast_pow a k).symm
structure Taker (C : Cx) (f Lp : Addr) (Dl : List Addr) (T : Nat → Store → Prop) : Prop where
  call : ∀ {k m n : Nat} {σ : Store} {Q : V → Store → Prop} {X : AX → Store → Prop}, T k σ → 0 < m → k < 450 → (∀ (j : Nat) σ', j < m → T (k + 1) σ' → Ex [Lp] σ σ' → Q (.int j) σ') → CALL C (n + 6) (.ref f) [.int m] σ Q X
  keep : ∀ {k : Nat} {σ σ' : Store}, T k σ → (∀ a o, a ∈ Dl → σ a = some o → σ' a = some o) → T k σ'
  kp : ∀ {k : Nat} {σ : Store}, T k σ → Kp C σ (.ref f)
  dep : ∀ {k : Nat} {σ : Store}, T k σ → ∀ a ∈ Dl, σ a ≠ none
  lp : Lp ∈ Dl
  at_ : ∀ {k : Nat} {σ : Store}, T k σ → ∃ i : Int, σ Lp = some (.list [.int i])
theorem Taker.ex {C : Cx} {f Lp : Addr} {Dl : List Addr} {T : Nat → Store → Prop} (tk : Taker C f Lp Dl T) {k : Nat} {σ σ' : Store} (t : T k σ) (h : Ex [] σ σ') : T k σ' := tk.keep t fun a o _ e => h a o e (by simp)
theorem Taker.has {C : Cx} {f Lp : Addr} {Dl : List Addr} {T : Nat → Store → Prop} (tk : Taker C f Lp Dl T) {k : Nat} {σ : Store} (t : T k σ) : σ Lp ≠ none := tk.dep t Lp tk.lp
section
variable {C : Cx} {σ : Store} {n : Nat} {env : Env} {ε : Loc} {Q : V → Store → Prop} {X : AX → Store → Prop} {QS : Fl → Loc → Store → Prop}
inductive TkQ (C : Cx) (P : Addr) (σ : Store) (r : V) (σ' : Store) : Prop
  | mk (f Lp : Addr) (Dl : List Addr) (T : Nat → Store → Prop) (h1 : r = .obj f) (h2 : Taker C f Lp Dl T) (h3 : T 0 σ') (h4 : ∀ a ∈ Dl, σ a = none) (h5 : ∃ ps, σ' P = some (.raw (tabObj ps))) (h6 : Ex [P] σ σ')
theorem taker_spec (O : L1 C) {sc P : Addr} {zs : List Int} {ps : Array Value} (hs : BaseInts C sc zs) (hz : zs.length ≤ 1000) (hC : CodeHd C.H 262 P) (hP : σ P = some (.raw (tabObj #[]))) :
    CALL C (n + 6) (.ref 263) [.obj sc] σ (TkQ C P σ) X := by
  refine CALL_cells (names := ["script"]) O.ok (O.k (f := fun K => K.lookup 263) (by k_is)) (O.k (f := fun K => codeIn K _ _) (by k_is)) ?_ (by decide) (by walk_at "hk") (by decide) (by decide) ?_
  · exact all1 fun _ => rfl
  intro L hL
  show TS C (n + 5) _ [("script", .obj sc)] _ (upd (upd σ (L + 1) (.cell none)) (L + 2) (.cell none)) _ _
  have a1 : σ (L + 1) = none := hL _ (Nat.le_add_right L 1)
  have a2 : σ (L + 2) = none := hL _ (Nat.le_add_right L 2)
  have a12 : L + 2 ≠ L + 1 := Nat.succ_ne_self _
  have hs0 : Ex [] σ (upd (upd σ (L + 1) (.cell none)) (L + 2) (.cell none)) := (Ex.new a1).trans (Ex.new (by rw [upd_ne _ _ a12]; exact a2))
  generalize hσ0 : upd (upd σ (L + 1) (.cell none)) (L + 2) (.cell none) = σ0 at hs0 ⊢
  have c1 : σ0 (L + 1) = some (.cell none) := by rw [← hσ0, upd_ne _ _ (Ne.symm a12), upd_self]
  have c2 : σ0 (L + 2) = some (.cell none) := by rw [← hσ0, upd_self]
  refine TS_cons (TS_Assign (EV_Cut (EV_local rfl (EV_int ⟨_, rfl, cut_base hs (by omega) fun Lc hLc => ?_⟩))))
  have n1 : L + 1 ≠ Lc := fun q => by rw [← q, c1] at hLc; cases hLc
  have n2 : L + 2 ≠ Lc := fun q => by rw [← q, c2] at hLc; cases hLc
  have hcut : cut (zs.map V.int) none (some (40 : Int)) = (zs.take 40).map V.int := by
    unfold cut
    have hcl : clipAt (zs.map V.int).length 40 = min 40 zs.length := by
      have := clipAt_cast (zs.map V.int).length 40
      rw [if_neg (by decide)] at this
      simp only [List.length_map] at this ⊢
      omega
    simp only [Option.elim_some, Option.elim_none, hcl, List.drop_zero, Nat.sub_zero, List.map_take]
    rw [← List.length_map (f := V.int)]
    exact List.take_eq_take_min.symm
  refine SN_cell (o := none) rfl (by rw [upd_ne _ _ n1]; exact c1) ?_
  rw [hcut]
  show TS _ _ _ _ (execs (_ :: _) _) _ _ _
  have h1 : Ex [L + 1] σ0 (upd (upd σ0 Lc (.list ((zs.take 40).map V.int))) (L + 1) (.cell (some (.obj Lc)))) := (Ex.new hLc).trans (Ex.set (by simp))
  refine TS_cons (TS.mono (Q := fun fl ε' σ' => fl = .next ∧ ε' = ([("script", .obj sc)] : Loc) ∧ ∃ Lc zs', σ' (L + 1) = some (.cell (some (.obj Lc))) ∧ σ' Lc = some (.list (zs'.map V.int)) ∧ zs' ≠ [] ∧ zs'.length ≤ 40 ∧ σ0 Lc = none ∧ Ex [L + 1] σ0 σ') ?_ (fun fl ε' σ' z => ?_) fun _ _ z => z)
  · refine TS_If (TT_Compare (EV_cell rfl (upd_self _ _ _) (EV_List (TL_nil ⟨by simp, fun l' hl' => ?_⟩))))
    have n3 : l' ≠ L + 1 := fun q => by rw [q, upd_self] at hl'; cases hl'
    have n4 : l' ≠ Lc := fun q => by rw [q, upd_ne _ _ (Ne.symm n1), upd_self] at hl'; cases hl'
    refine eq_l0 (l := (zs.take 40).map V.int) (by rw [upd_ne _ _ (Ne.symm n4), upd_ne _ _ (Ne.symm n1), upd_self]) (upd_self _ _ _) ⟨_, rfl, ?_⟩
    by_cases he : zs.take 40 = []
    · rw [he, if_pos (by rfl)]
      generalize hσ1 : upd (upd (upd σ0 Lc (.list (List.map V.int []))) (L + 1) (.cell (some (.obj Lc)))) l' (.list []) = σ1
      have m0 : σ1 (L + 1) = some (.cell (some (.obj Lc))) := by rw [← hσ1, upd_ne _ _ (Ne.symm n3), upd_self]
      have mE : Ex [L + 1] σ0 σ1 := by
        rw [← hσ1]
        refine ((Ex.new hLc).trans (Ex.set (by simp))).trans (Ex.new ?_)
        rw [he] at hl'; exact hl'
      refine TS_cons (TS_Assign (EV_List (TL_cons (EV_int (TL_nil ⟨by simp, fun l2 hl2 => ?_⟩)))))
      have n5 : L + 1 ≠ l2 := fun q => by rw [← q, m0] at hl2; cases hl2
      refine SN_cell (o := some (.obj Lc)) rfl (by rw [upd_ne _ _ n5]; exact m0) (TS_nil ⟨rfl, rfl, l2, [1], upd_self _ _ _, ?_, by simp, by simp, mE.gone hl2 (by simpa using Ne.symm n5), (mE.trans (Ex.new hl2)).trans (Ex.set (by simp))⟩)
      rw [upd_ne _ _ (Ne.symm n5), upd_self]; rfl
    · rw [if_neg (by simpa using he)]
      refine TS_nil ⟨rfl, rfl, Lc, zs.take 40, ?_, ?_, he, by rw [List.length_take]; omega, hLc, h1.trans (Ex.new hl')⟩
      · rw [upd_ne _ _ (Ne.symm n3), upd_self]
      · rw [upd_ne _ _ (Ne.symm n4), upd_ne _ _ (Ne.symm n1), upd_self]
  obtain ⟨rfl, rfl, Lc, zs', k1, k2, k3, k4, k5, k6⟩ := z
  have kP : σ' (L + 2) = some (.cell none) := k6.get c2 (by simp)
  show TS _ _ _ _ (execs (_ :: _) _) _ _ _
  refine TS_cons (TS_Assign (EV_List (TL_cons (EV_int (TL_nil ⟨by simp, fun Lp hLp => ?_⟩)))))
  have p1 : L + 1 ≠ Lp := fun q => by rw [← q, k1] at hLp; cases hLp
  have p2 : L + 2 ≠ Lp := fun q => by rw [← q, kP] at hLp; cases hLp
  have p3 : Lc ≠ Lp := fun q => by rw [← q, k2] at hLp; cases hLp
  refine SN_cell (o := none) rfl (by rw [upd_ne _ _ p2]; exact kP) ?_
  show TS _ _ _ _ (execs (_ :: _) _) _ _ _
  generalize hσ2 : upd (upd σ' Lp (.list [.int 0])) (L + 2) (.cell (some (.obj Lp))) = σ2
  have p5 : Lc ≠ L + 2 := fun q => by rw [q, kP] at k2; cases k2
  have r1 : σ2 (L + 1) = some (.cell (some (.obj Lc))) := by rw [← hσ2, upd_ne _ _ (Ne.symm a12), upd_ne _ _ p1]; exact k1
  have r2 : σ2 (L + 2) = some (.cell (some (.obj Lp))) := by rw [← hσ2, upd_self]
  have r3 : σ2 Lc = some (.list (zs'.map V.int)) := by rw [← hσ2, upd_ne _ _ p5, upd_ne _ _ p3]; exact k2
  have r4 : σ2 Lp = some (.list [.int 0]) := by rw [← hσ2, upd_ne _ _ (Ne.symm p2), upd_self]
  have rE : Ex [] σ σ2 := by
    have : Ex [L + 1, L + 2] σ0 σ2 := by rw [← hσ2]; exact ((k6.mono (by simp)).trans (Ex.new hLp)).trans (Ex.set (by simp))
    exact hs0.freshs this (by simp [a1, a2])
  have rP := rE.get hP
  refine TS_cons (TS_Def O.ok rfl hC rP (by simp [TriplesOk]) (by rfl) rfl rfl rfl rfl rfl fun f c' oc ws t doc pm ctv d1 d2 d3 d4 d5 => ?_)
  refine SN_local ?_
  show TS _ _ _ _ (execs (_ :: _) _) _ _ _
  have u1 : L + 1 ≠ P := fun q => by rw [q, rP] at r1; cases r1
  have u2 : L + 2 ≠ P := fun q => by rw [q, rP] at r2; cases r2
  have u3 : Lc ≠ P := fun q => by rw [q, rP] at r3; cases r3
  have u4 : Lp ≠ P := fun q => by rw [q, rP] at r4; cases r4
  have ne : ∀ {a o}, σ2 a = some o → a ≠ c' ∧ a ≠ f := fun e => ⟨fun q => (by rw [q, d1] at e; cases e), fun q => (by rw [q, d2] at e; cases e)⟩
  have keep : ∀ {a o} (x y z : AO), σ2 a = some o → a ≠ P → upd (upd (upd σ2 P x) c' y) f z a = some o := fun {a o} x y z e hp => by
    rw [upd_ne _ _ (ne e).2, upd_ne _ _ (ne e).1, upd_ne _ _ hp]; exact e
  refine TS_cons (TS_Return (EV_local rfl ?_))
  refine ⟨f, Lp, [f, c', L + 1, L + 2, Lc, Lp], fun k σ₁ => σ₁ f = some (.raw (fnMade _ _ _ _ _ _ doc pm c' ctv)) ∧ σ₁ c' = some (.raw oc) ∧ σ₁ (L + 1) = some (.cell (some (.obj Lc))) ∧ σ₁ (L + 2) = some (.cell (some (.obj Lp))) ∧ σ₁ Lc = some (.list (zs'.map V.int)) ∧ σ₁ Lp = some (.list [.int (k : Nat)]), rfl, ⟨?_, ?_, ?_, ?_, by simp, fun ⟨_, _, _, _, _, t6⟩ => ⟨_, t6⟩⟩, ⟨upd_self _ _ _, ?_, keep _ _ _ r1 u1, keep _ _ _ r2 u2, keep _ _ _ r3 u3, keep _ _ _ r4 u4⟩, ?_, ?_, ?_⟩
  · intro k m n' σ₁ Q X ⟨t1, t2, t3, t4, t5, t6⟩ hm hk hQ
    refine CALL_clos (names := ["limit"]) O.ok t1 t2 d4 d5 (fun vs hv => by
      match vs, hv with
      | [v], _ => rfl) (by decide) (by decide) fun L' hL' => ?_
    have hzl : 0 < zs'.length := List.length_pos_iff.mpr k3
    refine TS_cons (TS_Assign (EV_Sub (EV_free rfl t4 (EV_int (sub_list t6 (by decide) rfl (SN_local ?_))))))
    show TS _ _ _ _ (execs (_ :: _) _) _ _ _
    refine TS_cons (TS_SetSub (EV_BinOp (EV_local rfl (EV_int (add_ii (EV_free rfl t4 (EV_int (set_listI t6 (by decide) (by decide) (by simp) ?_))))))))
    have hset : ([V.int (k : Nat)].set (0 : Int).toNat (.int ((k : Int) + 1))) = [.int ((k + 1 : Nat) : Int)] := rfl
    rw [hset]
    have q1 : Lp ≠ Lc := Ne.symm p3
    have qs : Ex [Lp] σ₁ (upd σ₁ Lp (.list [.int ((k + 1 : Nat) : Int)])) := Ex.set (by simp)
    generalize hσ3 : upd σ₁ Lp (.list [.int ((k + 1 : Nat) : Int)]) = σ3 at qs
    have v4 : σ3 (L + 1) = some (.cell (some (.obj Lc))) := qs _ _ t3 (by simpa using p1)
    have v5 : σ3 Lc = some (.list (zs'.map V.int)) := qs _ _ t5 (by simpa using p3)
    have hll : ((zs'.map V.int).length : Int) = (zs'.length : Nat) := by simp
    show TS _ _ _ _ (execs (_ :: _) _) _ _ _
    refine TS_cons (TS_Assign (EV_BinOp (EV_local rfl (bc O (TL_cons (EV_free rfl v4 (TL_nil (len_list' v5 (by simp; omega) (div_ii ?_ ?_ (SN_local ?_))))))))))
    · rw [hll]; omega
    · rw [hll, Int.natAbs_natCast]
      exact Nat.lt_of_le_of_lt (Nat.log2_le_self _) (by omega)
    rw [hll]
    have hlv : (k : Int).fdiv (zs'.length : Nat) = ((k / zs'.length : Nat) : Int) := by
      rw [Int.fdiv_eq_ediv_of_nonneg _ (by omega)]; rfl
    rw [hlv]
    have hlk : k / zs'.length ≤ k := Nat.div_le_self _ _
    generalize k / zs'.length = lv at hlk
    have hkm : (k : Int).fmod (zs'.length : Nat) = ((k % zs'.length : Nat) : Int) := by
      rw [Int.fmod_eq_emod_of_nonneg _ (by omega)]; rfl
    have hkl : k % zs'.length < zs'.length := Nat.mod_lt _ hzl
    show TS _ _ _ _ (execs (_ :: _) _) _ _ _
    refine TS_cons (TS_Return (EV_BinOp (EV_BinOp (EV_BinOp (EV_Sub (EV_free rfl v4 (EV_BinOp (EV_local rfl (bc O (TL_cons (EV_free rfl v4 (TL_nil (len_list' v5 (by simp; omega) (mod_ii (by rw [hll]; omega) ?_))))))))))))))
    rw [hll, hkm]
    refine sub_list (x := .int (zs'[k % zs'.length])) v5 (by omega) (by rw [Int.toNat_natCast, List.getElem?_map, List.getElem?_eq_getElem hkl]; rfl) ?_ (by omega)
    generalize zs'[k % zs'.length] = z
    refine EV_BinOp (EV_int (EV_local rfl (pow_ii (by omega) (by rw [show Builtin.Int.intBits 720720 = 20 from by decide +kernel]; omega) ?_)))
    rw [Int.toNat_natCast]
    have hpz : (720720 : Int) ^ lv ≠ 0 := by
      have : (720720 : Int) ^ lv = ((720720 ^ lv : Nat) : Int) := pow_cast 720720 lv
      rw [this]
      have : 0 < 720720 ^ lv := Nat.pow_pos (by decide)
      omega
    have hplog : ((720720 : Int) ^ lv).natAbs.log2 < 9000 := by
      have e1 : (720720 : Int) ^ lv = ((720720 ^ lv : Nat) : Int) := pow_cast 720720 lv
      rw [e1, Int.natAbs_natCast]
      have e2 : 720720 ^ lv < 2 ^ 9000 := by
        have h1 : 720720 ^ lv ≤ (2 ^ 20) ^ lv := Nat.pow_le_pow_left (by decide) lv
        rw [← Nat.pow_mul] at h1
        exact Nat.lt_of_le_of_lt h1 (Nat.pow_lt_pow_right (by decide) (by omega))
      exact (Nat.log2_lt (by have : 0 < 720720 ^ lv := Nat.pow_pos (by decide); omega)).mpr e2
    refine div_ii hpz hplog (EV_BinOp (EV_local rfl (EV_BinOp (EV_BinOp (EV_int (EV_local rfl (mul_ii (IntMulOk.of_left (by decide +kernel)) (EV_int (add_ii ?_)))))))))
    refine mul_ii (IntMulOk.of_left (intBits_le_64 (by omega) (by omega))) (add_ii (EV_local rfl (mod_ii (by omega) ?_)))
    generalize Int.fdiv z ((720720 : Int) ^ lv) + (lv : Int) * (7 * (k : Int) + 3) = w
    have hw : w.fmod (m : Int) = ((w.fmod (m : Int)).toNat : Int) := by
      rw [Int.toNat_of_nonneg]
      rw [Int.fmod_eq_emod_of_nonneg _ (by omega)]
      exact Int.emod_nonneg _ (by omega)
    rw [hw]
    refine hQ _ _ ?_ ?_ qs
    · have : w.fmod (m : Int) < m := by
        rw [Int.fmod_eq_emod_of_nonneg _ (by omega)]
        exact Int.emod_lt_of_pos _ (by omega)
      omega
    · have nf : f ≠ Lp := fun q => by rw [q, t6] at t1; cases t1
      have nc : c' ≠ Lp := fun q => by
        rw [q, t6] at t2; cases t2
      exact ⟨qs _ _ t1 (by simpa using nf), qs _ _ t2 (by simpa using nc), v4, qs _ _ t4 (by simpa using p2), v5, by rw [← hσ3, upd_self]⟩
  · intro k σ₁ σ₂ ⟨t1, t2, t3, t4, t5, t6⟩ e
    exact ⟨e _ _ (by simp) t1, e _ _ (by simp) t2, e _ _ (by simp) t3, e _ _ (by simp) t4, e _ _ (by simp) t5, e _ _ (by simp) t6⟩
  · intro k σ₁ ⟨t1, _⟩
    exact Kp_fn t1
  · intro k σ₁ ⟨t1, t2, t3, t4, t5, t6⟩ a ha q
    simp only [List.mem_cons, List.not_mem_nil, or_false] at ha
    rcases ha with rfl | rfl | rfl | rfl | rfl | rfl
    · rw [t1] at q; cases q
    · rw [t2] at q; cases q
    · rw [t3] at q; cases q
    · rw [t4] at q; cases q
    · rw [t5] at q; cases q
    · rw [t6] at q; cases q
  · rw [upd_ne _ _ d3, upd_self]
  · intro a ha
    simp only [List.mem_cons, List.not_mem_nil, or_false] at ha
    have eP : Ex [L + 1, L + 2] σ0 σ2 := by rw [← hσ2]; exact ((k6.mono (by simp)).trans (Ex.new hLp)).trans (Ex.set (by simp))
    rcases ha with rfl | rfl | rfl | rfl | rfl | rfl
    · exact rE.gone d2
    · exact rE.gone d1
    · exact a1
    · exact a2
    · exact hs0.gone k5
    · exact hs0.gone (k6.gone hLp (by simpa using Ne.symm p1))
  · have hcP : P ≠ c' := fun q => by rw [← q, rP] at d1; cases d1
    have hfP : P ≠ f := fun q => by rw [← q, rP] at d2; cases d2
    exact ⟨_, by rw [upd_ne _ _ hfP, upd_ne _ _ hcP, upd_self]⟩
  · have hcP : c' ≠ P := fun q => by rw [q, rP] at d1; cases d1
    have hfP : f ≠ P := fun q => by rw [q, rP] at d2; cases d2
    refine (((rE.mono (by simp)).trans (Ex.set (by simp))).trans (Ex.new ?_)).trans (Ex.new ?_)
    · rw [upd_ne _ _ hcP]; exact d1
    · rw [upd_ne _ _ (Ne.symm d3), upd_ne _ _ hfP]; exact d2
end
end Mine
end
section
open PySem PySem.W PyProof.Rows PySem.Calls PySem.Spec
set_option Elab.async false
set_option maxRecDepth 100000
set_option linter.unusedVariables false
set_option linter.unusedSectionVars false
namespace Mine
section
variable {C : Cx} {g : Gh} {σ σ' : Store} {s s' : Shared} {env : Env} {ε : Loc} {n : Nat} {A : Around} {Q : V → Store → Prop} {X : AX → Store → Prop}
theorem sum_l {l : Addr} {ns : List Int} (hl : σ l = some (.list (ns.map .int))) (h : Q (.int ns.sum) σ) : OPL C (n + 1) env ε (fun vs => call (.builtin "sum") vs) [.obj l] σ Q X := fun A g s vs hA D r => by
  obtain ⟨v, r', rfl, rfl, q⟩ := r
  rw [show r' = [] from q]
  obtain ⟨vs, hls, hv⟩ := D.S.sim l _ hl
  have hi := ints_of_rvs hv
  obtain ⟨xs, e⟩ := hi.allInts.items
  refine sum_intListG hA.hn (by rw [← e]; exact hls.isList) fun h' tk t' kk => ⟨.int ns.sum, σ, D.grown _ kk, TK.of_keeps kk, ⟨t', ?_⟩, h⟩
  rw [preSum_eq, List.take_of_length_le (by simp), ← nums_intItems, ← e, hi.numsOf]
theorem join_l {l : Addr} {ys : List Str} {x : Str} (hl : σ l = some (.list (ys.map .str))) (hsep : x.length ≤ 16) (hw : (ys.map (·.length)).sum + ys.length ≤ 1048576) (h : Q (.str (Txt.join x ys)) σ) : OPL C n env ε (fun vs => call (.builtin "str.join") vs) [.str x, .obj l] σ Q X := fun A g s vs hA D r => by
  obtain ⟨v, r', rfl, ⟨t, rfl⟩, w, r'', rfl, rfl, q⟩ := r
  rw [show r'' = [] from q]
  obtain ⟨vs, hls, hv⟩ := D.S.sim l _ hl
  exact join_listW hls.isList (strs_of_rvs hv) hsep hw fun t' k => ppt D _ rv_str h
theorem adjust_ab (a b n : Nat) (ha : a ≤ n) (hb : b ≤ n) : Builtin.Slice.sliceAdjust (some (a : Int)) (some (b : Int)) 1 (n : Int) = ((a : Int), (b : Int)) := by
  unfold Builtin.Slice.sliceAdjust
  have h1 : ¬ ((1 : Int) < 0) := by decide
  have h2 : ¬ ((a : Int) < 0) := by omega
  have h3 : ¬ ((b : Int) < 0) := by omega
  simp only [h1, h2, h3, if_false]
  rw [Int.min_eq_left (by omega), Int.min_eq_left (by omega)]
theorem places_ab (a b : Nat) : Builtin.Slice.slicePlaces (a : Int) (b : Int) 1 = b - a := by
  unfold Builtin.Slice.slicePlaces
  have h1 : (1 : Int) > 0 := by decide
  simp only [h1, if_true, Int.ediv_one]
  split <;> omega
theorem sliceApplied_ab {prog : Program} {w : World} {E : Value → Shared → Prop} {sl : Addr} {a b n : Nat} {u v : Tok} {Q : Int × Int × Nat → Shared → Prop} (hs : s.heap.IsSliceOf sl (.int a u) (.int b v) .none) (ha : a ≤ n) (hb : b ≤ n) (h : Q ((a : Int), 1, b - a) s) :
    wpAny (model prog w) A (Builtin.Slice.sliceApplied (.ref sl) (pure (n : Int))) Q E s := by
  obtain ⟨os, hos, hcs, hds⟩ := id hs
  unfold Builtin.Slice.sliceApplied Builtin.Slice.sliceFields
  refine wpAny_bind (wpAny_bind (wpAny_field hos hds (x := .int a u) rfl (wpAny_bind (wpAny_field hos hds (x := .int b v) rfl (wpAny_bind (wpAny_field hos hds (x := .none) rfl (wpAny_pure ?_)))))))
  refine wpAny_bind (slicePart_none ?_)
  show wpAny _ _ (if ((1 : Int) == 0) = true then _ else _) _ _ s
  rw [if_neg (by decide)]
  refine wpAny_bind (slicePart_int (wpAny_bind (slicePart_int (wpAny_bind (wpAny_pure ?_)))))
  show wpAny _ _ (match Builtin.Slice.sliceAdjust (some (a : Int)) (some (b : Int)) 1 (n : Int) with | (lo, hi) => pure (lo, (1 : Int), Builtin.Slice.slicePlaces lo hi 1)) _ _ s
  rw [adjust_ab a b n ha hb]
  show wpAny _ _ (pure ((a : Int), (1 : Int), Builtin.Slice.slicePlaces (a : Int) (b : Int) 1)) _ _ s
  rw [places_ab]
  exact wpAny_pure h
theorem pick_ab (xs : Array Value) (a k : Nat) : ((List.range k).filterMap fun (k : Nat) => xs[((a : Int) + (k : Int) * 1).toNat]?).toArray = ((xs.toList.drop a).take k).toArray := by
  have e : (fun (k : Nat) => xs[((a : Int) + (k : Int) * 1).toNat]?) = (xs[·]?) ∘ (a + ·) := by
    funext k
    have : ((a : Int) + (k : Int) * 1).toNat = a + k := by omega
    rw [this]; rfl
  rw [e, ← List.filterMap_map, pick_run xs a k]
theorem getItem_tuple_ab {prog : Program} {w : World} {E : Value → Shared → Prop} {t sl : Addr} {items : Array Value} {a b : Nat} {u v : Tok} {Q : Value → Shared → Prop} (ht : IsTup s.heap t items) (hs : s.heap.IsSliceOf sl (.int a u) (.int b v) .none) (ha : a ≤ items.size) (hb : b ≤ items.size)
    (h0 : a = 0 → b = items.size → Q (.ref t) s) (h : Q (.ref s.heap.objs.size) { s with heap := s.heap.push { cls := .type "tuple", data := .seq ((items.toList.drop a).take (b - a)).toArray } })
    (hsz : items.size ≤ sizeLine) : wpAny (model prog w) A (getItem (.ref t) (.ref sl)) Q E s := by
  have hdrop : sizeOk (.seq ((items.toList.drop a).take (b - a)).toArray) := by
    show ((items.toList.drop a).take (b - a)).toArray.size ≤ sizeLine
    rw [List.size_toArray, List.length_take, List.length_drop, Array.length_toList]
    omega
  obtain ⟨os, hos, hcs, hds⟩ := id hs
  have hTs : s.TypeIs (.ref sl) "slice" := ⟨os, hos, hcs⟩
  unfold getItem
  try with_reducible refine wpAny_holding ?_
  first | refine wpAny_bind (wpAny_pure ?_) | skip
  refine wpAny_bind (wpAny_sequenceKey ht.typeIs (by decide) ?_)
  refine wpAny_bind (wpAny_callSpecial?_slot (name := PySem.Str.ofString "__getitem__") ht.typeIs slot_tuple_getitem
    (wpAny_call_entry slot_tuple_getitem ht.typeIs entry_tuple_getitem ?_ (args_tuple_getitem _ _)))
  show wpAny _ _ (Builtin.Tuple.tupleItemsOf (.ref t) >>= _) _ _ s
  refine wpAny_bind (tupleItemsOf_ ht ?_)
  refine wpAny_bind (wpAny_typeOf hTs ?_)
  rw [if_pos (by decide)]
  refine wpAny_bind (sliceApplied_ab hs ha hb ?_)
  show wpAny _ _ (if ((a : Int) == 0 && (1 : Int) == 1 && (b - a) == items.size) = true then _ else _) _ _ s
  split
  · rename_i hc
    simp only [Bool.and_eq_true, beq_iff_eq] at hc
    have ha0 : a = 0 := by have := hc.1.1; omega
    have hb0 : b = items.size := by have := hc.2; omega
    show wpAny _ _ (Builtin.Tuple.tupleIsExact (.ref t) >>= _) _ _ s
    refine wpAny_bind (wpAny_bind (wpAny_typeOf ht.typeIs (wpAny_pure ?_)))
    rw [if_pos (by decide)]
    exact wpAny_bind (wpAny_rule (wpAny_bind (wpAny_pure (wpAny_pure ⟨_, rfl, wpAny_pure (h0 ha0 hb0)⟩))))
  · rw [pick_ab]
    first
      | exact wpAny_bind (m := Builtin.Tuple.tupleExact _) (wpAny_newObj_type (wpAny_pure ⟨_, rfl, wpAny_pure h⟩) hdrop)
      | exact wpAny_bind (m := Builtin.Tuple.tupleExact _) (wpAny_newObj_type (wpAny_bind (wpAny_pure (wpAny_pure ⟨_, rfl, wpAny_pure h⟩))) hdrop)
      | exact wpAny_bind (wpAny_bind (m := Builtin.Tuple.tupleExact _) (wpAny_newObj_type (wpAny_pure (wpAny_pure ⟨_, rfl, wpAny_pure h⟩)) hdrop))
      | exact wpAny_bind (wpAny_bind (m := Builtin.Tuple.tupleExact _) (wpAny_newObj_type (wpAny_pure ⟨_, rfl, wpAny_pure h⟩) hdrop))
theorem cut_tup {l : List V} {a b : Nat} (ha : a ≤ l.length) (hb : b ≤ l.length) (hz : l.length ≤ 1000000) (h : Q (.tup ((l.drop a).take (b - a))) σ) : OPC C n env ε (.tup l) (some (a : Nat)) (some (b : Nat)) σ Q X := fun A g s v sl vl vu hA D r hsl pl pu => by
  obtain ⟨t, vs, rfl, ht, hv⟩ := r
  have hlen := hv.length
  cases pl with | int i u => cases pu with | int j v =>
  refine ⟨"tuple", _, slot_tuple_getitem.lookup, ht.typeIs, getItem_tuple_ab ht hsl (by simp; omega) (by simp; omega) (fun e1 e2 => ?_) ?_ (by rw [List.size_toArray, sizeLine_eq]; omega)⟩
  · have : (l.drop a).take (b - a) = l := by
      subst e1; simp at e2; rw [List.drop_zero, List.take_of_length_le (by omega)]
    rw [this] at h
    exact ⟨.tup l, σ, D, TK.refl _, ⟨t, vs, rfl, ht, hv⟩, h⟩
  · obtain ⟨f1, f2, f3, f4⟩ := D.fresh (Nat.le_refl _)
    have kk := TK.push s.heap { cls := .type "tuple", data := .seq ((vs.toArray.toList.drop a).take (b - a)).toArray }
    exact ⟨.tup _, σ, D.push _ _, kk, rv_tup ⟨_, Heap.get?_push_size _ rfl, rfl, _, rfl⟩ (RVs.mono kk _ _ ((hv.drop _).take _)), h⟩
end
end Mine
end
section
open PySem PySem.W PyProof.Rows PySem.Calls PySem.Spec
set_option Elab.async false
set_option maxRecDepth 100000
set_option maxHeartbeats 0
namespace Mine
theorem all0 {P : List Value → Prop} (h : P []) (vs : List Value) (e : vs.length = 0) : P vs := by cases vs with | nil => exact h | cons a l => cases e
def kindsD : List (Int × V) := [(83, .str "sequential"), (82, .str "relative"), (73, .str "indexed")]
section
variable {C : Cx} {σ : Store} {n : Nat} {env : Env} {ε : Loc} {Q : V → Store → Prop} {X : AX → Store → Prop} {QS : Fl → Loc → Store → Prop}
theorem EV_Dict3I {Q : V → Store → Prop} (O : C.Ok) {k1 k2 k3 v1 v2 v3 : Expr} {pos : Pos} (h : ∀ d, σ d = none → TP C n env ε [some k1, some k2, some k3] [v1, v2, v3] pos (upd σ d (.dictI [] 0)) (fun xs σ₁ => ∃ es : List (Int × V), xs = es.map (fun p => (.int p.1, p.2)) ∧ (es.map (·.1)).Nodup ∧ σ₁ d = some (.dictI [] 0) ∧ ∀ ep, Q (.obj d) (upd σ₁ d (.dictI es ep))) X) :
    EV C n env ε (.Dict [some k1, some k2, some k3] [v1, v2, v3] pos) σ Q X := EV_DictI O h (hlen := by simp)
theorem lkinds_spec (O : L1 C) : CALL C (n + 2) (.ref 244) [] σ (fun r σ' => ∃ d ep, r = .obj d ∧ σ' d = some (.dictI kindsD ep) ∧ Ex [] σ σ') X := by
  refine CALL_def (names := []) O.ok (O.k (f := fun K => K.lookup 244) (by k_is)) (O.k (f := fun K => codeIn K _ _) (by k_is)) ?_ (by decide) (by decide) ?_
  · exact all0 rfl
  intro L
  refine TS_cons ?_
  refine TS_Return ?_
  refine EV_Dict3I O.ok fun d hd => ?_
  refine TP_cons (EV_int (EV_str (TP_cons (EV_int (EV_str (TP_cons (EV_int (EV_str (TP_nil ⟨kindsD, rfl, by decide, upd_self _ _ _, fun ep => ?_⟩)))))))))
  have : upd (upd σ d (.dictI [] 0)) d (.dictI kindsD ep) = upd σ d (.dictI kindsD ep) := by
    funext b; by_cases hb : b = d <;> simp [upd, hb]
  rw [this]
  exact ⟨d, ep, rfl, upd_self _ _ _, Ex.new hd⟩
theorem sum_mul (l : List Nat) (f : Nat → Nat) (c : Nat) : (l.map fun x => f x * c).sum = (l.map f).sum * c := by
  induction l with
  | nil => simp
  | cons a l ih => simp only [List.map_cons, List.sum_cons, ih, Nat.add_mul]
theorem sum_cast (l : List Nat) : (l.map fun x : Nat => (x : Int)).sum = ((l.sum : Nat) : Int) := by
  induction l with
  | nil => rfl
  | cons a l ih => simp only [List.map_cons, List.sum_cons, ih]; exact (Int.natCast_add _ _).symm
theorem numS_eq (xs : List UInt8) : ∀ w, w ≤ xs.length → ((List.range w).map fun s => (xs.getD s 0).toNat * 256 ^ (w - 1 - s)).sum = num (xs.take w)
  | 0, _ => rfl
  | w + 1, h => by
    have hw : xs[w]? = some xs[w] := List.getElem?_eq_getElem h
    have e : (List.range w).map (fun s => (xs.getD s 0).toNat * 256 ^ (w + 1 - 1 - s)) = (List.range w).map fun s => (xs.getD s 0).toNat * 256 ^ (w - 1 - s) * 256 := by
      apply List.map_congr_left
      intro s hs
      have hs' : s < w := List.mem_range.mp hs
      rw [show w + 1 - 1 - s = (w - 1 - s) + 1 from by omega, Nat.pow_succ, Nat.mul_assoc]
    rw [List.range_succ, List.map_append, List.sum_append, num_take hw, ← numS_eq xs w (by omega), e, sum_mul]
    simp [List.getD, hw]
theorem count2_spec (O : L1 C) {b : List UInt8} {i w : Nat} (hw : w ≤ 4) (hb : b.length ≤ 1000000) (hi : i ≤ 1000000) :
    CALL C (n + 6) (.ref 268) [.bytes b.toArray, .int i, .int w] σ (fun r σ' => (r = match countP b i w with | .error _ => .tup [.int 0, .int (-1)] | .ok (k, i') => .tup [.int k, .int i']) ∧ Ex [] σ σ') X := by
  refine CALL_cells (names := ["octets", "at", "width"]) O.ok (O.k (f := fun K => K.lookup 268) (by k_is)) (O.k (f := fun K => codeIn K _ _) (by k_is)) ?_ (by decide) (by walk_at "hk") (by decide) (by decide) ?_
  · exact all3 fun _ _ _ => rfl
  intro L hL
  have a1 : σ (L + 1) = none := hL _ (Nat.le_add_right L 1)
  have a2 : σ (L + 2) = none := hL _ (Nat.le_add_right L 2)
  have a3 : σ (L + 3) = none := hL _ (Nat.le_add_right L 3)
  show TS C (n + 5) _ [] _ (upd (upd (upd σ (L + 1) (.cell (some (.bytes b.toArray)))) (L + 2) (.cell (some (.int i)))) (L + 3) (.cell (some (.int w)))) _ _
  have ne : ∀ {i j : Nat}, i ≠ j → L + i ≠ L + j := fun h q => h (Nat.add_left_cancel q)
  have n12 : L + 1 ≠ L + 2 := ne (by decide)
  have n13 : L + 1 ≠ L + 3 := ne (by decide)
  have n23 : L + 2 ≠ L + 3 := ne (by decide)
  have e0 : Ex [] σ (upd (upd (upd σ (L + 1) (.cell (some (.bytes b.toArray)))) (L + 2) (.cell (some (.int i)))) (L + 3) (.cell (some (.int w)))) := ((Ex.new a1).trans (Ex.new (by rw [upd_ne _ _ (Ne.symm n12)]; exact a2))).trans (Ex.new (by rw [upd_ne _ _ (Ne.symm n23), upd_ne _ _ (Ne.symm n13)]; exact a3))
  generalize hσ : upd (upd (upd σ (L + 1) (.cell (some (.bytes b.toArray)))) (L + 2) (.cell (some (.int i)))) (L + 3) (.cell (some (.int w))) = σ0 at e0 ⊢
  have c1 : σ0 (L + 1) = some (.cell (some (.bytes b.toArray))) := by rw [← hσ, upd_ne _ _ n13, upd_ne _ _ n12, upd_self]
  have c2 : σ0 (L + 2) = some (.cell (some (.int i))) := by rw [← hσ, upd_ne _ _ n23, upd_self]
  have c3 : σ0 (L + 3) = some (.cell (some (.int w))) := by rw [← hσ, upd_self]
  clear hσ
  have hsz : (b.toArray.size : Int) = b.length := by simp
  refine TS_cons (TS_If (TT_Compare (EV_BinOp (EV_cell rfl c2 (EV_cell rfl c3 (add_ii (bc O (TL_cons (EV_cell rfl c1 (TL_nil (len_b (by simp; omega) (gt_ii ⟨_, rfl, ?_⟩))))))))))))
  rw [hsz, countP_eq]
  unfold takeP
  by_cases hc : b.length < i + w
  · rw [if_pos (by simp; omega), if_pos hc]
    exact TS_cons (TS_Return (EV_Tuple (TL_cons (EV_int (TL_cons (EV_Neg (TL_nil ⟨by simp, rfl, e0⟩)))))))
  · rw [if_neg (by simp; omega), if_neg hc]
    refine TS_nil ?_
    show TS _ _ _ _ (execs (_ :: _) _) _ _ _
    refine TS_cons (TS_Return (EV_Tuple (TL_cons (bc O (TL_cons (EV_ListComp (IT_range (bl O ⟨rfl, rfl⟩) (TL_cons (EV_cell rfl c3 (TL_nil ?_))))))))))
    have hn : num ((b.drop i).take w) = ((List.range w).map fun s => ((b.drop i).getD s 0).toNat * 256 ^ (w - 1 - s)).sum := (numS_eq _ _ (by simp; omega)).symm
    refine ⟨0, _, 1, w, .inl ⟨rfl, rfl, rfl⟩, small_nat (by omega), size_nat _, by rw [upto_map]; simp; omega, fun Cl => ?_⟩
    rw [upto_map]
    refine CmpW_each (fun σ' => σ' = σ0) _ (fun s => .int ((((b.drop i).getD s 0).toNat * 256 ^ (w - 1 - s) : Nat) : Int)) (fun _ _ => trivial) _ _ _ _ rfl (fun s hs ε σ' e => ?_) (fun σ' e => ?_)
    · subst e
      have hs' : s < w := by simpa using hs
      refine TA_Name (SN_local (TT_tests_nil ⟨rfl, ?_⟩))
      refine EV_BinOp (EV_Sub (EV_cell rfl c1 (EV_BinOp (EV_cell rfl c2 (EV_local rfl (add_ii (sub_bytes (by simp; omega) (by omega) (by simp; omega) ?_)))))))
      refine EV_BinOp (EV_int (EV_BinOp (EV_BinOp (EV_cell rfl c3 (EV_int (sub_ii (EV_local rfl (sub_ii ?_))))))))
      have e1 : ((w : Int) - 1 - (0 + (s : Int) * 1)) = ((w - 1 - s : Nat) : Int) := by omega
      rw [e1]
      have hp' : (256 : Int) ^ (((w - 1 - s : Nat) : Int)).toNat = ((256 ^ (w - 1 - s) : Nat) : Int) := by simp
      refine pow_ii (by omega) (by rw [show Builtin.Int.intBits 256 = 9 from by decide +kernel]; omega) ?_
      rw [hp']
      refine mul_ii (IntMulOk.of_left (intBits_le_64 (by omega) ?_)) ⟨?_, rfl⟩
      · have := ((b.toArray.toList.getD ((i : Int) + (0 + (s : Int) * 1)).toNat 0)).toNat_lt; omega
      · rw [show ((i : Int) + (0 + (s : Int) * 1)).toNat = i + s from by omega]
        simp [List.getD]
    · subst e
      intro D hD
      refine TL_nil (sum_l (n := n + 4) (l := D) (ns := (List.range w).map fun s => ((((b.drop i).getD s 0).toNat * 256 ^ (w - 1 - s) : Nat) : Int)) (by rw [upd_self]; simp) ?_)
      have n1 : L + 2 ≠ D := fun q => by rw [← q, c2] at hD; cases hD
      have n2 : L + 3 ≠ D := fun q => by rw [← q, c3] at hD; cases hD
      refine TL_cons (EV_BinOp (EV_cell rfl (by rw [upd_ne _ _ n1]; exact c2) (EV_cell rfl (by rw [upd_ne _ _ n2]; exact c3) (add_ii (TL_nil ⟨by simp, ?_, e0.trans (Ex.new hD)⟩)))))
      have hc' : ((List.range w).map fun s => ((((b.drop i).getD s 0).toNat * 256 ^ (w - 1 - s) : Nat) : Int)).sum = ((num ((b.drop i).take w) : Nat) : Int) := by
        rw [hn, ← sum_cast, List.map_map]; rfl
      rw [hc']
      rfl
end
end Mine
end
section
open PySem PySem.W PyProof.Rows PySem.Calls PySem.Spec
set_option Elab.async false
set_option maxRecDepth 100000
set_option maxHeartbeats 0
namespace Mine
theorem takeP_err {b : List UInt8} {i m j : Nat} (h : takeP b i m = .error j) : j = b.length ∧ b.length < i + m := by
  unfold takeP at h
  split at h
  · rename_i q; cases h; exact ⟨rfl, q⟩
  · cases h
theorem countP_err {b : List UInt8} {i w j : Nat} (h : countP b i w = .error j) : j = b.length := by
  unfold countP at h
  split at h
  · rename_i q; cases h; exact (takeP_err q).1
  · cases h
theorem join_signs (l : List Nat) : Txt.join ⟨#[]⟩ (l.map fun c => (⟨#[c]⟩ : Str)) = ⟨l.toArray⟩ := by
  show Builtin.Str.glued _ _ = _
  unfold Builtin.Str.glued
  cases l with
  | nil => rfl
  | cons a l =>
    simp only [List.map_cons, List.drop_succ_cons, List.drop_zero, List.headD_cons]
    have : ∀ (l : List Nat) (acc : Array Nat), (l.map fun c => (⟨#[c]⟩ : Str)).foldl (fun acc p => acc ++ #[] ++ p.cps) acc = acc ++ l.toArray := by
      intro l
      induction l with
      | nil => simp
      | cons b l ih => intro acc; rw [List.map_cons, List.foldl_cons, ih]; simp
    rw [this]
    simp
inductive LpQ (b : List UInt8) (i : Nat) (ahead : Option Str) (σ : Store) (v : V) (σ' : Store) : Prop
  | mk (p : Str) (i2 : Nat) (w : Int) (h1 : v = .tup [.str p, .int i2, .int w]) (h2 : match pathP b i ahead with | .error j => w = j | .ok (p', i') => p = p' ∧ i2 = i' ∧ w = -1) (h3 : Ex [] σ σ')
inductive LpI (b xs : List UInt8) (i k i1 : Nat) (ahead : Option Str) (σ₁ : Store) (t : Nat) (ε : Loc) (σ' : Store) : Prop
  | mk (q1 : ε.lookup ("octets" : Str) = some (.bytes b.toArray)) (q2 : ε.lookup ("at" : Str) = some (.int i)) (q3 : ε.lookup ("ahead" : Str) = some (aheadV ahead)) (q4 : ε.lookup ("many" : Str) = some (.int k)) (q5 : ε.lookup ("begin" : Str) = some (.int i1)) (q6 : σ' = σ₁) (q7 : ∀ c ∈ xs.take t, badSign c = false)
section
variable {C : Cx} {σ : Store} {n : Nat} {env : Env} {ε : Loc} {Q : V → Store → Prop} {X : AX → Store → Prop} {QS : Fl → Loc → Store → Prop}
theorem lpath_spec (O : L1 C) {b : List UInt8} {i : Nat} {ahead : Option Str} (hb : b.length ≤ 900000) (hi : i ≤ 900000) :
    CALL C (n + 8) (.ref 273) [.bytes b.toArray, .int i, aheadV ahead] σ (LpQ b i ahead σ) X := by
  refine CALL_def (names := ["octets", "at", "ahead"]) O.ok (O.k (f := fun K => K.lookup 273) (by k_is)) (O.k (f := fun K => codeIn K _ _) (by k_is)) ?_ (by decide) (by decide) ?_
  · exact all3 fun _ _ _ => rfl
  intro L
  have hsz : (b.toArray.size : Int) = b.length := by simp
  refine TS_cons (TS_AssignTuple (gc O (TL_cons (EV_local rfl (TL_cons (EV_local rfl (TL_cons (EV_int (TL_nil ((count2_spec (n := n + 1) (w := 1) O (by decide) (by omega) (by omega)).mono ?_ fun _ _ z => z))))))))))
  rintro r σ₁ ⟨rfl, e1⟩
  cases hcp : countP b i 1 with
  | error j =>
    refine TA_Tuple rfl rfl (TA_Name (SN_local (TA_Name (SN_local ?_))))
    show TS _ _ _ _ (execs (_ :: _) _) _ _ _
    refine TS_cons (TS_If (TT_BoolOp (TT_Or (TT_Compare (EV_local rfl (EV_int (lt_ii ⟨_, rfl, ?_⟩)))))))
    rw [if_pos (by decide), if_pos rfl]
    refine TS_cons (TS_Return (EV_Tuple (TL_cons (EV_str (TL_cons (EV_int (TL_cons (bc O (TL_cons (EV_local rfl (TL_nil (len_b (by simp; omega) (TL_nil ⟨by simp, ?_⟩)))))))))))))
    refine ⟨"", 0, _, rfl, ?_, e1⟩
    unfold pathP
    rw [hcp, hsz]
    show (b.length : Int) = j
    rw [countP_err hcp]
  | ok x =>
    obtain ⟨k, i1⟩ := x
    obtain ⟨hi1, hi2, hk⟩ := countP_ok hcp
    have hk2 : k < 256 := by
      have := num_lt ((b.drop i).take 1)
      rw [← hk, List.length_take, List.length_drop, show min 1 (b.length - i) = 1 from by omega] at this
      exact this
    refine TA_Tuple rfl rfl (TA_Name (SN_local (TA_Name (SN_local ?_))))
    show TS _ _ _ _ (execs (_ :: _) _) _ _ _
    refine TS_cons (TS_If (TT_BoolOp (TT_Or (TT_Compare (EV_local rfl (EV_int (lt_ii ⟨_, rfl, ?_⟩)))))))
    rw [if_neg (by simp)]
    refine TT_Or (TT_Compare (EV_BinOp (EV_local rfl (EV_local rfl (add_ii (bc O (TL_cons (EV_local rfl (TL_nil (len_b (by simp; omega) (gt_ii ⟨_, rfl, ?_⟩)))))))))))
    rw [hsz]
    have hpath : pathP b i ahead = bindP (takeP b i1 k) fun xs i2 => match xs.findIdx? badSign with
      | some k => .error (i + 1 + k)
      | none => if aheadOk ahead (strOf xs) then .ok (strOf xs, i2) else .error i := by unfold pathP; rw [hcp]; rfl
    by_cases hc : b.length < i1 + k
    · rw [if_pos (by simp; omega), if_pos rfl]
      refine TS_cons (TS_Return (EV_Tuple (TL_cons (EV_str (TL_cons (EV_int (TL_cons (bc O (TL_cons (EV_local rfl (TL_nil (len_b (by simp; omega) (TL_nil ⟨by simp, ?_⟩)))))))))))))
      refine ⟨"", 0, _, rfl, ?_, e1⟩
      rw [hpath, hsz]
      unfold takeP
      rw [if_pos hc]
      rfl
    · rw [if_neg (by simp; omega)]
      refine TT_Or_nil ?_
      rw [if_neg (by simp)]
      refine TS_nil ?_
      show TS _ _ _ _ (execs (_ :: _) _) _ _ _
      have htake : takeP b i1 k = .ok ((b.drop i1).take k, i1 + k) := by unfold takeP; rw [if_neg hc]
      generalize hxs : (b.drop i1).take k = xs at htake
      rw [htake] at hpath
      have hlen : xs.length = k := by rw [← hxs]; simp; omega
      refine TS_cons (TS_For_it rfl (IT_range (bl O ⟨rfl, rfl⟩) (TL_cons (EV_local rfl (TL_cons (EV_BinOp (EV_local rfl (EV_local rfl (add_ii (TL_nil ⟨(i1 : Int), _, 1, k, .inr (.inl ⟨rfl, rfl⟩), small_one (by omega) (by omega) (by omega) (by omega), by rw [rangeSize_up]; congr 1; omega, ?_⟩))))))))))
      rw [upto_map]
      refine ForW_each (LpI b xs i k i1 ahead σ₁) _ (List.range k) (fun t t' ht ε σ' ⟨q1, q2, q3, q4, q5, q6, q7⟩ => ?_) (fun ε σ' ⟨q1, q2, q3, q4, q5, q6, q7⟩ => ?_) ⟨rfl, rfl, rfl, rfl, rfl, rfl, by simp⟩
      · subst q6
        obtain ⟨h2, h3⟩ := List.getElem?_eq_some_iff.mp ht
        rw [List.length_range] at h2
        rw [List.getElem_range] at h3
        subst h3
        have hxt : xs[t]? = some (b.toArray.toList.getD ((i1 : Int) + (t : Int) * 1).toNat 0) := by
          rw [show ((i1 : Int) + (t : Int) * 1).toNat = i1 + t from by omega, ← hxs, List.getElem?_take_of_lt h2, List.getElem?_drop]
          have : i1 + t < b.length := by omega
          simp [List.getD, this]
        generalize hcv : b.toArray.toList.getD ((i1 : Int) + (t : Int) * 1).toNat 0 = c at hxt
        have hbad : badSign c = true → LpQ b i ahead σ (.tup [.str "", .int 0, .int ((i1 : Int) + (t : Int) * 1)]) σ' := fun hb' => by
          refine ⟨"", 0, _, rfl, ?_, e1⟩
          rw [hpath]
          show match (match xs.findIdx? badSign with | some k => Except.error (i + 1 + k) | none => _ : PR Str) with | .error j => _ | .ok (p', i') => _
          rw [first_bad hxt hb' q7]
          show (i1 : Int) + (t : Int) * 1 = ((i + 1 + t : Nat) : Int)
          omega
        refine TA_Name (SN_local (TS_cons (TS_If (TT_BoolOp (TT_Or (TT_Compare (EV_Sub (EV_local q1 (EV_local rfl (sub_bytes (by simp; omega) (by omega) (by simp; omega) (EV_int (lt_ii ⟨_, rfl, ?_⟩))))))))))))
        rw [hcv]
        by_cases h32 : c.toNat < 32
        · rw [if_pos (by simp; omega), if_pos rfl]
          exact TS_cons (TS_Return (EV_Tuple (TL_cons (EV_str (TL_cons (EV_int (TL_cons (EV_local rfl (TL_nil ⟨by simp, hbad (by simp [badSign]; omega)⟩)))))))))
        · rw [if_neg (by simp; omega)]
          refine TT_Or (TT_Compare (EV_Sub (EV_local q1 (EV_local rfl (sub_bytes (by simp; omega) (by omega) (by simp; omega) (EV_int (gt_ii ⟨_, rfl, ?_⟩)))))))
          rw [hcv]
          by_cases h126 : 126 < c.toNat
          · rw [if_pos (by simp; omega), if_pos rfl]
            exact TS_cons (TS_Return (EV_Tuple (TL_cons (EV_str (TL_cons (EV_int (TL_cons (EV_local rfl (TL_nil ⟨by simp, hbad (by simp [badSign]; omega)⟩)))))))))
          · rw [if_neg (by simp; omega)]
            refine TT_Or_nil ?_
            rw [if_neg (by simp)]
            refine TS_nil (TS_nil ⟨trivial, q1, q2, q3, q4, q5, rfl, fun d hd => ?_⟩)
            rw [List.take_add_one, hxt] at hd
            rcases List.mem_append.mp hd with hd | hd
            · exact q7 d hd
            · simp at hd; subst hd; simp [badSign]; omega
      · subst q6
        have hgood : xs.findIdx? badSign = none := by
          rw [List.length_range, ← hlen, List.take_length] at q7
          exact List.findIdx?_eq_none_iff.mpr q7
        show TS _ _ _ _ (execs (_ :: _) _) _ _ _
        refine TS_cons (TS_Assign (EV_Method (EV_str (meth_str PySem.F.slot_str_join PySem.F.type_str_join (CW_cons (TL_cons (EV_ListComp (IT_val (EV_Cut (EV_local q1 (EV_local q5 ⟨_, rfl, EV_BinOp (EV_local q5 (EV_local q4 (add_ii ⟨_, rfl, cut_bytes (by simp; omega) ?_⟩)))⟩)))))))))))
        have hcut : cut b.toArray.toList (some (i1 : Int)) (some ((i1 : Int) + (k : Int))) = xs := by
          rw [show ((i1 : Int) + (k : Int)) = ((i1 + k : Nat) : Int) from (Int.natCast_add _ _).symm]
          have := cut_nat (l := b) (lo := i1) (hi := i1 + k) (by omega) (by omega)
          rw [show b.toArray.toList = b from rfl, this, Nat.add_sub_cancel_left, hxs]
        rw [hcut]
        refine ⟨_, _, goes_bytes, by simp [octs]; omega, fun Cl => ?_⟩
        refine CmpW_each (fun σ'' => σ'' = σ') _ (fun c : UInt8 => .str ⟨#[c.toNat]⟩) (fun _ _ => trivial) _ _ _ _ rfl (fun c hc ε σ'' e => ?_) (fun σ'' e => ?_)
        · subst e
          exact TA_Name (SN_local (TT_tests_nil ⟨rfl, bc O (TL_cons (EV_local rfl (TL_nil (chr_i (by omega) (by have := c.toNat_lt; omega) ⟨by rw [Int.toNat_natCast], rfl⟩))))⟩))
        · subst e
          intro D hD
          have e2 : Ex [] σ (upd σ'' D (.list ([] ++ xs.map fun c => .str ⟨#[c.toNat]⟩))) := e1.trans (Ex.new hD)
          refine TL_nil ⟨Kp_builtin, join_l (ys := xs.map fun c => (⟨#[c.toNat]⟩ : Str)) (by rw [upd_self]; simp) (by decide) ?_ (SN_local ?_)⟩
          · have : ∀ l : List UInt8, ((l.map fun c => (⟨#[c.toNat]⟩ : Str)).map (·.length)).sum = l.length := by
              intro l
              induction l with
              | nil => rfl
              | cons a l ih => rw [List.map_cons, List.map_cons, List.sum_cons, ih, List.length_cons]; show 1 + _ = _; omega
            rw [this, List.length_map]; omega
          have hj : Txt.join "" (xs.map fun c => (⟨#[c.toNat]⟩ : Str)) = strOf xs := by
            have := join_signs (xs.map (·.toNat))
            rw [List.map_map] at this
            exact this
          rw [hj]
          generalize upd σ'' D (.list ([] ++ xs.map fun c => .str ⟨#[c.toNat]⟩)) = σ3 at e2 ⊢
          show TS _ _ _ _ (execs (_ :: _) _) _ _ _
          have hok : ∀ w : Int, (if aheadOk ahead (strOf xs) then w = -1 else w = i) → LpQ b i ahead σ (.tup [.str (strOf xs), .int ((i1 : Int) + (k : Int)), .int w]) σ3 := fun w hw => by
            refine ⟨strOf xs, i1 + k, w, by rw [Int.natCast_add], ?_, e2⟩
            rw [hpath]
            show match (match xs.findIdx? badSign with | some k => _ | none => if aheadOk ahead (strOf xs) = true then Except.ok (strOf xs, i1 + k) else Except.error i : PR Str) with | .error j => _ | .ok (p', i') => _
            rw [hgood]
            cases ha : aheadOk ahead (strOf xs) with
            | true => rw [ha, if_pos rfl] at hw; exact ⟨rfl, rfl, hw⟩
            | false => rw [ha, if_neg (by decide)] at hw; exact hw
          refine TS_cons (TS_Return (EV_Tuple (TL_cons (EV_local rfl (TL_cons (EV_BinOp (EV_local q5 (EV_local q4 (add_ii (TL_cons (EV_IfExp (TT_BoolOp (TT_Or (TT_Compare (EV_local q3 (EV_none ?_))))))))))))))))
          cases ahead with
          | none =>
            refine is_none' true (fun h v r => by rw [show v = _ from r]; rfl) ⟨_, rfl, ?_⟩
            rw [if_pos rfl, if_pos rfl]
            exact EV_Neg (TL_nil ⟨by simp, hok _ (by rw [show aheadOk none (strOf xs) = true from rfl, if_pos rfl])⟩)
          | some a =>
            refine is_none' false (fun h v r => by obtain ⟨t, rfl⟩ := r; rfl) ⟨_, rfl, ?_⟩
            rw [if_neg (by decide)]
            refine TT_Or (TT_Compare (EV_local rfl (EV_local q3 (gt_ss ⟨_, rfl, ?_⟩))))
            cases ha : strLt a (strOf xs) with
            | true =>
              rw [if_pos rfl, if_pos rfl]
              exact EV_Neg (TL_nil ⟨by simp, hok _ (by rw [show aheadOk (some a) (strOf xs) = true from ha, if_pos rfl])⟩)
            | false =>
              rw [if_neg (by decide)]
              refine TT_Or_nil ?_
              rw [if_neg (by decide)]
              exact EV_local q2 (TL_nil ⟨by simp, hok _ (by rw [show aheadOk (some a) (strOf xs) = false from ha, if_neg (by decide)])⟩)
end
end Mine
end
section
open PySem PySem.W PyProof.Rows PySem.Calls PySem.Spec
set_option Elab.async false
set_option maxRecDepth 100000
set_option maxHeartbeats 0
namespace Mine
inductive LrwQ (b : List UInt8) (k : Str) (i lo : Nat) (σ : Store) (v : V) (σ' : Store) : Prop
  | mk (y : V) (i2 : Nat) (w : Int) (h1 : v = .tup [y, .int i2, .int w]) (h2 : match rowG (isRel k) b i lo with | .error j => w = j | .ok (x, i') => y = rowVG (isRel k) x ∧ i2 = i' ∧ w = -1) (h3 : Ex [] σ σ')
inductive RwM (b : List UInt8) (k : Str) (i lo : Nat) (σ : Store) : Fl → Loc → Store → Prop
  | go {ε : Loc} {σ' : Store} (nb i1 : Nat) (e1 : ε.lookup ("octets" : Str) = some (.bytes b.toArray)) (e2 : ε.lookup ("at" : Str) = some (.int i1)) (e3 : ε.lookup ("kind" : Str) = some (.str k)) (e4 : ε.lookup ("number" : Str) = some (.int nb))
      (h1 : rowG (isRel k) b i lo = bindP (seqRowP b i1) fun xs i' => .ok ((nb, xs), i')) (h2 : i1 ≤ 900000) (h3 : Ex [] σ σ') : RwM b k i lo σ .next ε σ'
  | out {ε : Loc} {σ' : Store} (v : V) (h : LrwQ b k i lo σ v σ') : RwM b k i lo σ (.ret v) ε σ'
section
variable {C : Cx} {σ : Store} {n : Nat} {env : Env} {ε : Loc} {Q : V → Store → Prop} {X : AX → Store → Prop} {QS : Fl → Loc → Store → Prop}
theorem lrow_spec (O : L1 C) {b : List UInt8} {k : Str} {i lo : Nat} (hb : b.length ≤ 900000) (hi : i ≤ 900000) :
    CALL C (n + 8) (.ref 280) [.bytes b.toArray, .int i, .str k, .int ((lo : Int) + 1)] σ (LrwQ b k i lo σ) X := by
  refine CALL_def (names := ["octets", "at", "kind", "low"]) O.ok (O.k (f := fun K => K.lookup 280) (by k_is)) (O.k (f := fun K => codeIn K _ _) (by k_is)) ?_ (by decide) (by decide) ?_
  · exact all4 fun _ _ _ _ => rfl
  intro L
  have hsz : (b.toArray.size : Int) = b.length := by simp
  refine TS_cons (TS_Assign (EV_int (SN_local ?_)))
  show TS _ _ _ _ (execs (_ :: _) _) _ _ _
  refine TS_cons (TS_Assign (EV_local rfl (SN_local ?_)))
  show TS _ _ _ _ (execs (_ :: _) _) _ _ _
  refine TS_cons (TS.mono (Q := RwM b k i lo σ) ?_ (fun fl ε' σ' z => ?_) fun _ _ z => z)
  · refine TS_If (TT_Compare (EV_local rfl (EV_str (eq_ss ⟨_, rfl, ?_⟩))))
    by_cases hk : k = "relative"
    · rw [if_pos (by simpa using hk)]
      have hr : isRel k = true := by simp [isRel, hk]
      have hrow : rowG (isRel k) b i lo = bindP (countP b i 4) fun k i1 => if k ≤ lo then .error i else bindP (seqRowP b i1) fun xs i2 => .ok ((k, xs), i2) := by rw [hr]; rfl
      refine TS_cons (TS_AssignTuple (gc O (TL_cons (EV_local rfl (TL_cons (EV_local rfl (TL_cons (EV_int (TL_nil ((count2_spec (n := n + 1) (w := 4) O (by decide) (by omega) (by omega)).mono ?_ fun _ _ z => z))))))))))
      rintro r σ₁ ⟨rfl, e1⟩
      cases hcp : countP b i 4 with
      | error j =>
        refine TA_Tuple rfl rfl (TA_Name (SN_local (TA_Name (SN_local ?_))))
        show TS _ _ _ _ (execs (_ :: _) _) _ _ _
        refine TS_cons (TS_If (TT_Compare (EV_local rfl (EV_int (lt_ii ⟨_, rfl, ?_⟩)))))
        rw [if_pos (by decide)]
        refine TS_cons (TS_Return (EV_Tuple (TL_cons (EV_bytes (TL_cons (EV_int (TL_cons (bc O (TL_cons (EV_local rfl (TL_nil (len_b (by simp; omega) (TL_nil ⟨by simp, ?_⟩)))))))))))))
        refine .out _ ⟨_, 0, _, rfl, ?_, e1⟩
        rw [hrow, hcp, hsz]
        show (b.length : Int) = j
        rw [countP_err hcp]
      | ok x =>
        obtain ⟨nb, i1⟩ := x
        obtain ⟨hi1, hi2, hk⟩ := countP_ok hcp
        refine TA_Tuple rfl rfl (TA_Name (SN_local (TA_Name (SN_local ?_))))
        show TS _ _ _ _ (execs (_ :: _) _) _ _ _
        refine TS_cons (TS_If (TT_Compare (EV_local rfl (EV_int (lt_ii ⟨_, rfl, ?_⟩)))))
        rw [if_neg (by simp)]
        refine TS_nil ?_
        show TS _ _ _ _ (execs (_ :: _) _) _ _ _
        refine TS_cons (TS_If (TT_Compare (EV_local rfl (EV_local rfl (lt_ii ⟨_, rfl, ?_⟩)))))
        by_cases hlo : nb ≤ lo
        · rw [if_pos (by simp; omega)]
          refine TS_cons (TS_Return (EV_Tuple (TL_cons (EV_bytes (TL_cons (EV_int (TL_cons (EV_local rfl (TL_nil ⟨by simp, ?_⟩)))))))))
          refine .out _ ⟨_, 0, _, rfl, ?_, e1⟩
          rw [hrow, hcp]
          show match (if nb ≤ lo then Except.error i else _ : PR (Nat × List UInt8)) with | .error j => _ | .ok (x, i') => _
          rw [if_pos hlo]
        · rw [if_neg (by simp; omega)]
          refine TS_nil (TS_nil ?_)
          refine .go nb i1 rfl rfl rfl rfl ?_ (by omega) e1
          rw [hrow, hcp]
          show (if nb ≤ lo then _ else _) = _
          rw [if_neg hlo]
    · rw [if_neg (by simpa using hk)]
      have hr : isRel k = false := by simp [isRel, hk]
      refine TS_nil (.go 0 i rfl rfl rfl rfl ?_ hi Ex.refl)
      rw [hr]; rfl
  cases z with
  | out v h => exact h
  | go nb i1 e1 e2 e3 e4 h1 h2 h3 =>
    show TS _ _ _ _ (execs (_ :: _) _) _ _ _
    refine TS_cons (TS_AssignTuple (gc O (TL_cons (EV_local e1 (TL_cons (EV_local e2 (TL_cons (EV_int (TL_nil ((count2_spec (n := n + 1) (w := 2) O (by decide) (by omega) (by omega)).mono ?_ fun _ _ z => z))))))))))
    rintro r σ₁ ⟨rfl, e5⟩
    have e6 := h3.trans e5
    have hseq : seqRowP b i1 = bindP (countP b i1 2) fun n i2 => takeP b i2 n := rfl
    cases hcp : countP b i1 2 with
    | error j =>
      refine TA_Tuple rfl rfl (TA_Name (SN_local (TA_Name (SN_local ?_))))
      show TS _ _ _ _ (execs (_ :: _) _) _ _ _
      refine TS_cons (TS_If (TT_BoolOp (TT_Or (TT_Compare (EV_local rfl (EV_int (lt_ii ⟨_, rfl, ?_⟩)))))))
      rw [if_pos (by decide), if_pos rfl]
      refine TS_cons (TS_Return (EV_Tuple (TL_cons (EV_bytes (TL_cons (EV_int (TL_cons (bc O (TL_cons (EV_local e1 (TL_nil (len_b (by simp; omega) (TL_nil ⟨by simp, ?_⟩)))))))))))))
      refine ⟨_, 0, _, rfl, ?_, e6⟩
      rw [h1, hseq, hcp, hsz]
      show (b.length : Int) = j
      rw [countP_err hcp]
    | ok x =>
      obtain ⟨m, i2⟩ := x
      obtain ⟨hi1, hi2, hk⟩ := countP_ok hcp
      refine TA_Tuple rfl rfl (TA_Name (SN_local (TA_Name (SN_local ?_))))
      show TS _ _ _ _ (execs (_ :: _) _) _ _ _
      refine TS_cons (TS_If (TT_BoolOp (TT_Or (TT_Compare (EV_local rfl (EV_int (lt_ii ⟨_, rfl, ?_⟩)))))))
      rw [if_neg (by simp)]
      refine TT_Or (TT_Compare (EV_BinOp (EV_local rfl (EV_local rfl (add_ii (bc O (TL_cons (EV_local e1 (TL_nil (len_b (by simp; omega) (gt_ii ⟨_, rfl, ?_⟩)))))))))))
      rw [hsz]
      by_cases hc : b.length < i2 + m
      · rw [if_pos (by simp; omega), if_pos rfl]
        refine TS_cons (TS_Return (EV_Tuple (TL_cons (EV_bytes (TL_cons (EV_int (TL_cons (bc O (TL_cons (EV_local e1 (TL_nil (len_b (by simp; omega) (TL_nil ⟨by simp, ?_⟩)))))))))))))
        refine ⟨_, 0, _, rfl, ?_, e6⟩
        have herr : rowG (isRel k) b i lo = .error b.length := by
          rw [h1, hseq, hcp]; show bindP (takeP b i2 m) _ = _; unfold takeP; rw [if_pos hc]; rfl
        rw [herr, hsz]
      · rw [if_neg (by simp; omega)]
        refine TT_Or_nil ?_
        rw [if_neg (by simp)]
        refine TS_nil ?_
        show TS _ _ _ _ (execs (_ :: _) _) _ _ _
        have htake : takeP b i2 m = .ok ((b.drop i2).take m, i2 + m) := by unfold takeP; rw [if_neg hc]
        refine TS_cons (TS_Assign (EV_Cut (EV_local e1 (EV_local rfl ⟨_, rfl, EV_BinOp (EV_local rfl (EV_local rfl (add_ii ⟨_, rfl, cut_bytes (by simp; omega) ?_⟩)))⟩))))
        have hcut : cut b.toArray.toList (some (i2 : Int)) (some ((i2 : Int) + (m : Int))) = (b.drop i2).take m := by
          rw [show ((i2 : Int) + (m : Int)) = ((i2 + m : Nat) : Int) from (Int.natCast_add _ _).symm]
          have := cut_nat (l := b) (lo := i2) (hi := i2 + m) (by omega) (by omega)
          rw [show b.toArray.toList = b from rfl, this, Nat.add_sub_cancel_left]
        rw [hcut]
        refine SN_local ?_
        show TS _ _ _ _ (execs (_ :: _) _) _ _ _
        have hfin : rowG (isRel k) b i lo = .ok ((nb, (b.drop i2).take m), i2 + m) := by
          rw [h1, hseq, hcp]; show bindP (takeP b i2 m) _ = _; rw [htake]; rfl
        refine TS_cons (TS_Return (EV_Tuple (TL_cons (EV_IfExp (TT_Compare (EV_local e3 (EV_str (eq_ss ⟨_, rfl, ?_⟩))))))))
        by_cases hk : k = "relative"
        · rw [if_pos (by simpa using hk)]
          have hr : isRel k = true := by simp [isRel, hk]
          refine EV_Tuple (TL_cons (EV_local e4 (TL_cons (EV_local rfl (TL_nil ⟨by simp, TL_cons (EV_BinOp (EV_local rfl (EV_local rfl (add_ii (TL_cons (EV_Neg (TL_nil ⟨by simp, ?_⟩)))))))⟩)))))
          refine ⟨_, i2 + m, -1, by rw [Int.natCast_add], ?_, e6⟩
          rw [hfin, hr]
          exact ⟨rfl, rfl, rfl⟩
        · rw [if_neg (by simpa using hk)]
          have hr : isRel k = false := by simp [isRel, hk]
          refine EV_local rfl (TL_cons (EV_BinOp (EV_local rfl (EV_local rfl (add_ii (TL_cons (EV_Neg (TL_nil ⟨by simp, ?_⟩))))))))
          refine ⟨_, i2 + m, -1, by rw [Int.natCast_add], ?_, e6⟩
          rw [hfin, hr]
          exact ⟨rfl, rfl, rfl⟩
end
end Mine
end
section
open PySem PySem.W PyProof.Rows PySem.Calls PySem.Spec
set_option Elab.async false
set_option maxRecDepth 100000
set_option maxHeartbeats 0
namespace Mine
abbrev WFile := Str × Str × List (Nat × List UInt8)
def fileR (b : List UInt8) (i : Nat) (ahead : Option Str) : PR WFile := bindP (kindP b i) fun k i1 => bindP (pathP b i1 ahead) fun p i2 => bindP (countP b i2 4) fun n i3 => bindP (rowsG (isRel k) b n i3 0) fun rs i4 => .ok ((p, k, rs), i4)
def walkR (b : List UInt8) : Nat → Nat → Option Str → List WFile → Except Nat (List WFile)
  | 0, _, _, acc => .ok acc
  | f + 1, i, ahead, acc => if i < b.length then (match fileR b i ahead with
    | .error j => .error j
    | .ok (x, i') => walkR b f i' (some x.1) (acc ++ [x])) else .ok acc
def walkAll (b : List UInt8) : Except Nat (List WFile) := walkR b (b.length + 1) 0 none []
def wV (x : WFile) : V := .tup [.str x.1, .str x.2.1, .tup (x.2.2.map (rowVG (isRel x.2.1)))]
inductive WkQ (b : List UInt8) (σ : Store) (v : V) (σ' : Store) : Prop
  | mk (h : match walkAll b with | .error j => v = .tup [.tup [], .int j] | .ok l => v = .tup [.tup (l.map wV), .int (-1)]) (e : Ex [] σ σ')
inductive WkI (b : List UInt8) (l : Addr) (σ : Store) (k : Nat) (ε : Loc) (σ' : Store) : Prop
  | mk (q1 : ε.lookup ("octets" : Str) = some (.bytes b.toArray)) (q2 : ε.lookup ("found" : Str) = some (.obj l)) (i : Nat) (ahead : Option Str) (acc : List WFile) (q3 : ε.lookup ("at" : Str) = some (.int i)) (q4 : ε.lookup ("ahead" : Str) = some (aheadV ahead))
      (q5 : σ' l = some (.list (acc.map wV))) (q6 : Ex [] σ σ') (q7 : b.length - i < k) (q8 : i ≤ b.length) (q9 : acc.length ≤ i) (q10 : walkR b k i ahead acc = walkAll b)
inductive WrwI (b : List UInt8) (l lr : Addr) (acc : List WFile) (kd p : Str) (nn i3 : Nat) (σ₄ : Store) (t : Nat) (ε : Loc) (σ' : Store) : Prop
  | mk (w1 : ε.lookup ("octets" : Str) = some (.bytes b.toArray)) (w2 : ε.lookup ("found" : Str) = some (.obj l)) (w3 : ε.lookup ("kind" : Str) = some (.str kd)) (w4 : ε.lookup ("ahead" : Str) = some (.str p)) (w5 : ε.lookup ("rows" : Str) = some (.obj lr)) (lo i' : Nat) (rs : List (Nat × List UInt8))
      (w6 : ε.lookup ("low" : Str) = some (.int ((lo : Int) + 1))) (w7 : ε.lookup ("at" : Str) = some (.int i')) (w8 : σ' lr = some (.list (rs.map (rowVG (isRel kd))))) (w9 : Ex [lr] σ₄ σ') (w10 : rs.length * 2 ≤ i') (w11 : i3 ≤ i') (w12 : i' ≤ b.length)
      (w13 : rowsG (isRel kd) b nn i3 0 = (bindP (rowsG (isRel kd) b (nn - t) i' lo) fun xs j => .ok (rs ++ xs, j)))
theorem kinds_at (c : UInt8) : valueA kindsD (c.toNat : Int) = (kindOf c).map V.str := by
  have h : ∀ k : UInt8, (((k.toNat : Int) = (c.toNat : Int)) ↔ c = k) := fun k => ⟨fun e => (UInt8.toNat_inj.mp (by omega)).symm, fun e => by rw [e]⟩
  have h1 := h 83; have h2 := h 82; have h3 := h 73
  simp only [show (83 : UInt8).toNat = 83 from rfl, show (82 : UInt8).toNat = 82 from rfl, show (73 : UInt8).toNat = 73 from rfl] at h1 h2 h3
  unfold valueA kindsD kindOf
  by_cases c1 : c = 83
  · subst c1; rfl
  · by_cases c2 : c = 82
    · subst c2; rfl
    · by_cases c3 : c = 73
      · subst c3; rfl
      · have d1 : ¬ ((83 : Int) = (c.toNat : Int)) := fun e => c1 (h1.mp e)
        have d2 : ¬ ((82 : Int) = (c.toNat : Int)) := fun e => c2 (h2.mp e)
        have d3 : ¬ ((73 : Int) = (c.toNat : Int)) := fun e => c3 (h3.mp e)
        simp [c1, c2, c3, d1, d2, d3]
theorem kindP_in {b : List UInt8} {i : Nat} (h : i < b.length) : kindP b i = match kindOf (b.getD i 0) with | some k => .ok (k, i + 1) | none => .error i := by
  have e : takeP b i 1 = .ok ([b.getD i 0], i + 1) := by
    unfold takeP
    rw [if_neg (by omega)]
    congr 2
    rw [List.drop_eq_getElem_cons h, List.take_succ_cons, List.take_zero]
    simp [List.getD, h]
  unfold kindP
  rw [e]
  rfl
section
variable {C : Cx} {g : Gh} {σ σ' : Store} {s : Shared} {n : Nat} {env : Env} {ε : Loc} {A : Around} {Q : V → Store → Prop} {X : AX → Store → Prop} {QS : Fl → Loc → Store → Prop}
theorem notin_dictI {a : Addr} {es : List (Int × V)} {ep : Nat} {k : Int} (hl : σ a = some (.dictI es ep)) (h : Q (.bool (!(valueA es k).isSome)) σ) : OP2 C n env ε (compareOp .NotIn) (.int k) (.obj a) σ Q X := fun A g s v w hA D r r' => by
  rw [show w = _ from r']
  obtain ⟨u, rfl⟩ := r
  obtain ⟨hsys, kvs, hd, hp⟩ := D.S.sim a _ hl
  have e : (valueAt kvs k).isSome = (valueA es k).isSome := by
    have z := hp.valueAt (k := k)
    cases q : valueA es k with
    | none => rw [q] at z; rw [z]; rfl
    | some x => rw [q] at z; obtain ⟨v, e1, _⟩ := z; rw [e1]; rfl
  exact wpAny_notIn_of (knd := intKind C.prog C.w) (k := k) (by simp [intKind, Value.isInt]) hsys hd.dictOf.mapOf (ppt D _ (show RV s.heap (.bool (!(valueA es k).isSome)) _ by rw [e]; rfl) h)
theorem walked_spec (O : L1 C) {b : List UInt8} (hb : b.length ≤ 800000) : CALL C (n + 12) (.ref 287) [.bytes b.toArray] σ (WkQ b σ) X := by
  refine CALL_def (names := ["octets"]) O.ok (O.k (f := fun K => K.lookup 287) (by k_is)) (O.k (f := fun K => codeIn K _ _) (by k_is)) ?_ (by decide) (by decide) ?_
  · exact all1 fun _ => rfl
  intro L
  have hsz : (b.toArray.size : Int) = b.length := by simp
  refine TS_cons (TS_AssignSwap (names := ["at", "found", "ahead"]) (EV_Tuple (TL_cons (EV_int (TL_cons (EV_List (TL_nil ⟨by simp, fun l hl => TL_cons (EV_none (TL_nil ⟨by simp, _, rfl, rfl, TA_bind (SN_local (TA_bind (SN_local (TA_bind (SN_local ?_)))))⟩))⟩)))))))
  show TS _ _ _ _ (execs (_ :: _) _) _ _ _
  refine TS_cons (TS_While (WkI b l σ) rfl (fun k ε σ' ⟨q1, q2, i, ahead, acc, q3, q4, q5, q6, q7, q8, q9, q10⟩ => ?_) (b.length + 1) ⟨rfl, rfl, 0, none, [], rfl, rfl, upd_self _ _ _, Ex.new hl, by omega, by omega, by simp, rfl⟩)
  refine TT_Compare (EV_local q3 (bc O (TL_cons (EV_local q1 (TL_nil (len_b (by simp; omega) (lt_ii ⟨_, rfl, ?_⟩)))))))
  rw [hsz]
  obtain ⟨k, rfl⟩ : ∃ k', k = k' + 1 := ⟨k - 1, by omega⟩
  by_cases hlt : i < b.length
  · rw [if_pos (by simpa using hlt)]
    have hfail : ∀ {j : Nat} {σ₂ : Store}, fileR b i ahead = .error j → Ex [] σ σ₂ → WkQ b σ (.tup [.tup [], .int j]) σ₂ := fun {j σ₂} h e => by
      refine ⟨?_, e⟩
      rw [← q10]; unfold walkR; rw [if_pos hlt, h]
    have hbyte : b.toArray.toList.getD (i : Int).toNat 0 = b.getD i 0 := rfl
    have hkp := kindP_in hlt
    have hka := kinds_at (b.getD i 0)
    refine TS_cons (TS_If (TT_Compare (EV_Sub (EV_local q1 (EV_local q3 (sub_bytes (by simp; omega) (by omega) (by simp; omega) (gc0 O ((lkinds_spec (n := n + 9) O).mono ?_ fun _ _ z => z))))))))
    rintro r σ₁ ⟨d, ep, rfl, hd, e1⟩
    rw [hbyte]
    refine notin_dictI hd ⟨_, rfl, ?_⟩
    rw [hka]
    cases hk : kindOf (b.getD i 0) with
    | none =>
      rw [hk] at hkp
      rw [if_pos (by rfl)]
      refine TS_cons (TS_Return (EV_Tuple (TL_cons (EV_Tuple (TL_nil ⟨by simp, TL_cons (EV_local q3 (TL_nil ⟨by simp, ?_⟩))⟩)))))
      exact hfail (by unfold fileR; rw [hkp]; rfl) (q6.trans e1)
    | some kd =>
      rw [hk] at hkp hka
      rw [if_neg (by simp)]
      refine TS_nil ?_
      show TS _ _ _ _ (execs (_ :: _) _) _ _ _
      refine TS_cons (TS_Assign (EV_Sub (gc0 O ((lkinds_spec (n := n + 9) O).mono ?_ fun _ _ z => z))))
      rintro r σ₂ ⟨d2, ep2, rfl, hd2, e2⟩
      refine EV_Sub (EV_local q1 (EV_local q3 (sub_bytes (by simp; omega) (by omega) (by simp; omega) ?_)))
      rw [hbyte]
      refine sub_dictI hd2 hka (SN_local ?_)
      show TS _ _ _ _ (execs (_ :: _) _) _ _ _
      have f2 : Ex [] σ' σ₂ := e1.trans e2
      have hi1 : ((i : Int) + 1) = ((i + 1 : Nat) : Int) := rfl
      refine TS_cons (TS_AssignTuple (gc O (TL_cons (EV_local q1 (TL_cons (EV_BinOp (EV_local q3 (EV_int (add_ii (TL_cons (EV_local q4 (TL_nil ?_))))))))))))
      rw [hi1]
      refine (lpath_spec (n := n + 3) O (by omega) (by omega)).mono ?_ fun _ _ z => z
      rintro r σ₃ ⟨p, i2, w, rfl, hp, e3⟩
      have f3 := f2.trans e3
      refine TA_Tuple rfl rfl (TA_Name (SN_local (TA_Name (SN_local (TA_Name (SN_local ?_))))))
      show TS _ _ _ _ (execs (_ :: _) _) _ _ _
      refine TS_cons (TS_If (TT_Compare (EV_local rfl (EV_int (ge_ii ⟨_, rfl, ?_⟩)))))
      cases hpp : pathP b (i + 1) ahead with
      | error j =>
        rw [hpp] at hp
        have hp : w = j := hp
        subst hp
        rw [if_pos (by simp)]
        refine TS_cons (TS_Return (EV_Tuple (TL_cons (EV_Tuple (TL_nil ⟨by simp, TL_cons (EV_local rfl (TL_nil ⟨by simp, ?_⟩))⟩)))))
        exact hfail (by unfold fileR; rw [hkp]; show bindP (pathP b (i + 1) ahead) _ = _; rw [hpp]; rfl) (q6.trans f3)
      | ok x =>
        obtain ⟨p', i2'⟩ := x
        rw [hpp] at hp
        obtain ⟨rfl, rfl, rfl⟩ : p = p' ∧ i2 = i2' ∧ w = -1 := hp
        obtain ⟨hp1, hp2⟩ := pathP_ok hpp
        rw [if_neg (by simp)]
        refine TS_nil ?_
        show TS _ _ _ _ (execs (_ :: _) _) _ _ _
        refine TS_cons (TS_AssignTuple (gc O (TL_cons (EV_local q1 (TL_cons (EV_local rfl (TL_cons (EV_int (TL_nil ((count2_spec (n := n + 5) (w := 4) O (by decide) (by omega) (by omega)).mono ?_ fun _ _ z => z))))))))))
        rintro r σ₄ ⟨rfl, e4⟩
        have f4 := f3.trans e4
        cases hcp : countP b i2 4 with
        | error j =>
          refine TA_Tuple rfl rfl (TA_Name (SN_local (TA_Name (SN_local ?_))))
          show TS _ _ _ _ (execs (_ :: _) _) _ _ _
          refine TS_cons (TS_If (TT_Compare (EV_local rfl (EV_int (lt_ii ⟨_, rfl, ?_⟩)))))
          rw [if_pos (by decide)]
          refine TS_cons (TS_Return (EV_Tuple (TL_cons (EV_Tuple (TL_nil ⟨by simp, TL_cons (bc O (TL_cons (EV_local q1 (TL_nil (len_b (by simp; omega) (TL_nil ⟨by simp, ?_⟩))))))⟩)))))
          rw [hsz, ← countP_err hcp]
          exact hfail (by unfold fileR; rw [hkp]; show bindP (pathP b (i + 1) ahead) _ = _; rw [hpp]; show bindP (countP b i2 4) _ = _; rw [hcp]; rfl) (q6.trans f4)
        | ok x =>
          obtain ⟨nn, i3⟩ := x
          obtain ⟨hn1, hn2, hn3⟩ := countP_ok hcp
          have hnlt : nn < 4294967296 := by
            have := num_lt ((b.drop i2).take 4)
            rw [← hn3, List.length_take, List.length_drop, show min 4 (b.length - i2) = 4 from by omega] at this
            exact this
          have hrows : fileR b i ahead = bindP (rowsG (isRel kd) b nn i3 0) fun rs i4 => .ok ((p, kd, rs), i4) := by unfold fileR; rw [hkp]; show bindP (pathP b (i + 1) ahead) _ = _; rw [hpp]; show bindP (countP b i2 4) _ = _; rw [hcp]; rfl
          refine TA_Tuple rfl rfl (TA_Name (SN_local (TA_Name (SN_local ?_))))
          show TS _ _ _ _ (execs (_ :: _) _) _ _ _
          refine TS_cons (TS_If (TT_Compare (EV_local rfl (EV_int (lt_ii ⟨_, rfl, ?_⟩)))))
          rw [if_neg (by simp)]
          refine TS_nil ?_
          show TS _ _ _ _ (execs (_ :: _) _) _ _ _
          refine TS_cons (TS_AssignSwap (names := ["rows", "low"]) (EV_Tuple (TL_cons (EV_List (TL_nil ⟨by simp, fun lr hlr => TL_cons (EV_int (TL_nil ⟨by simp, _, rfl, rfl, TA_bind (SN_local (TA_bind (SN_local ?_)))⟩))⟩)))))
          show TS _ _ _ _ (execs (_ :: _) _) _ _ _
          have hl4 : σ₄ l = some (.list (acc.map wV)) := f4.get q5
          have hne : l ≠ lr := fun q => by rw [← q, hl4] at hlr; cases hlr
          refine TS_cons (TS_For_it rfl (IT_range (bl O ⟨rfl, rfl⟩) (TL_cons (EV_local rfl (TL_nil ⟨0, _, 1, nn, .inl ⟨rfl, rfl, rfl⟩, small_nat (by omega), size_nat _, ?_⟩)))))
          rw [upto_map]
          refine ForW_each (WrwI b l lr acc kd p nn i3 σ₄) _ (List.range nn) (fun t t' ht ε σ' ⟨w1, w2, w3, w4, w5, lo, i', rs, w6, w7, w8, w9, w10, w11, w12, w13⟩ => ?_) (fun ε σ' ⟨w1, w2, w3, w4, w5, lo, i', rs, w6, w7, w8, w9, w10, w11, w12, w13⟩ => ?_) ⟨q1, q2, rfl, rfl, rfl, 0, i3, [], rfl, rfl, upd_self _ _ _, Ex.new hlr, by simp, by omega, by omega, by rw [Nat.sub_zero]; exact (bindP_pure _).symm⟩
          · have htn : t < nn := by simpa using (List.getElem?_eq_some_iff.mp ht).1
            obtain ⟨m, hm⟩ : ∃ m, nn - t = m + 1 := ⟨nn - t - 1, by omega⟩
            have hm' : nn - (t + 1) = m := by omega
            have g0 : Ex [] σ σ' := (q6.trans f4).freshs w9 (by simpa using (q6.trans f4).gone hlr)
            rw [hm] at w13
            have w13' : rowsG (isRel kd) b nn i3 0 = bindP (rowG (isRel kd) b i' lo) fun x i'' => bindP (rowsG (isRel kd) b m i'' x.1) fun xs j => .ok (rs ++ (x :: xs), j) := by
              rw [w13]
              show bindP (bindP (rowG (isRel kd) b i' lo) _) _ = _
              rw [bindP_assoc]
              congr 1
              funext x i''
              rw [bindP_assoc]
              congr 1
            refine TA_Name (SN_local (TS_cons (TS_AssignTuple (gc O (TL_cons (EV_local w1 (TL_cons (EV_local w7 (TL_cons (EV_local w3 (TL_cons (EV_local w6 (TL_nil ((lrow_spec (n := n + 3) O (by omega) (by omega)).mono ?_ fun _ _ z => z))))))))))))))
            rintro r σ₅ ⟨y, i'', w, rfl, hr, e5⟩
            refine TA_Tuple rfl rfl (TA_Name (SN_local (TA_Name (SN_local (TA_Name (SN_local ?_))))))
            show TS _ _ _ _ (execs (_ :: _) _) _ _ _
            refine TS_cons (TS_If (TT_Compare (EV_local rfl (EV_int (ge_ii ⟨_, rfl, ?_⟩)))))
            cases hrow : rowG (isRel kd) b i' lo with
            | error j =>
              rw [hrow] at hr
              have hr : w = j := hr
              subst hr
              rw [if_pos (by simp)]
              refine TS_cons (TS_Return (EV_Tuple (TL_cons (EV_Tuple (TL_nil ⟨by simp, TL_cons (EV_local rfl (TL_nil ⟨by simp, ?_⟩))⟩)))))
              exact hfail (by rw [hrows, w13', hrow]; rfl) (g0.trans e5)
            | ok x =>
              obtain ⟨x, i4⟩ := x
              rw [hrow] at hr
              obtain ⟨rfl, rfl, rfl⟩ : y = rowVG (isRel kd) x ∧ i'' = i4 ∧ w = -1 := hr
              obtain ⟨y1, y2, y3, y4⟩ := rowG_ok hrow
              rw [if_neg (by simp)]
              refine TS_nil ?_
              show TS _ _ _ _ (execs (_ :: _) _) _ _ _
              refine TS_cons (TS_Assign (TV.mono (Q := fun v σ₆ => v = .int ((x.1 : Int) + 1) ∧ σ₆ = σ₅) ?_ (fun v σ₆ z => ?_) fun _ _ z => z))
              · refine EV_IfExp (TT_Compare (EV_local w3 (EV_str (eq_ss ⟨_, rfl, ?_⟩))))
                show (if isRel kd = true then _ else _)
                cases hrel : isRel kd with
                | true =>
                  rw [if_pos rfl]
                  exact EV_BinOp (EV_Sub (EV_local rfl (EV_int (sub_tup (j := 0) rfl rfl (EV_int (add_ii ⟨rfl, rfl⟩))))))
                | false =>
                  rw [if_neg (by simp)]
                  exact EV_int ⟨by rw [y4 hrel]; rfl, rfl⟩
              obtain ⟨rfl, rfl⟩ := z
              refine SN_local ?_
              show TS _ _ _ _ (execs (_ :: _) _) _ _ _
              have l5 := e5.get w8
              refine TS_cons (TS_Expr (EV_Method (EV_local w5 (meth_list slot_list_append type_list_append l5 (CW_cons (TL_cons (EV_local rfl (TL_nil ⟨Kp_builtin, append_l l5 (by simp; omega) ?_⟩))))))))
              refine TS_nil ⟨trivial, w1, w2, w3, w4, w5, x.1, i'', rs ++ [x], rfl, rfl, ?_, (w9.trans (e5.mono (by simp))).trans (Ex.set (by simp)), by simp; omega, by omega, y2, ?_⟩
              · rw [upd_self]; simp
              · rw [hm', w13', hrow]
                show bindP (rowsG (isRel kd) b m i'' x.1) _ = _
                congr 1
                funext xs j
                simp
          · rw [List.length_range, Nat.sub_self] at w13
            have hfile : fileR b i ahead = .ok ((p, kd, rs), i') := by
              rw [hrows, w13]; show Except.ok _ = _; simp
            have hl' : σ' l = some (.list (acc.map wV)) := w9 _ _ hl4 (by simpa using hne)
            have g0 : Ex [] σ σ' := (q6.trans f4).freshs w9 (by simpa using (q6.trans f4).gone hlr)
            show TS _ _ _ _ (execs (_ :: _) _) _ _ _
            refine TS_cons (TS_Expr (EV_Method (EV_local w2 (meth_list slot_list_append type_list_append hl' (CW_cons (TL_cons (EV_Tuple (TL_cons (EV_local w4 (TL_cons (EV_local w3 (TL_cons (bc O (TL_cons (EV_local w5 (TL_nil (tuple_list w8 (by simp; omega) (TL_nil ⟨by simp, TL_nil ⟨Kp_builtin, append_l hl' (by simp; omega) ?_⟩⟩))))))))))))))))))
            refine TS_nil ⟨k, by omega, w1, w2, i', some p, acc ++ [(p, kd, rs)], w7, w4, ?_, g0.freshs (Ex.set (S := [l]) (by simp)) (by simpa using hl), by omega, w12, by simp; omega, ?_⟩
            · rw [upd_self, List.map_append]; rfl
            · rw [← q10]; conv => rhs; unfold walkR
              rw [if_pos hlt, hfile]
  · rw [if_neg (by simpa using hlt)]
    show TS _ _ _ _ (execs (_ :: _) _) _ _ _
    refine TS_cons (TS_Return (EV_Tuple (TL_cons (bc O (TL_cons (EV_local q2 (TL_nil (tuple_list q5 (by simp; omega) (TL_cons (EV_Neg (TL_nil ⟨by simp, ?_, q6⟩)))))))))))
    rw [← q10]; unfold walkR; rw [if_neg hlt]
end
end Mine
end
section
open PySem PySem.W PyProof.Rows PySem.Calls PySem.Spec
set_option Elab.async false
set_option maxRecDepth 100000
set_option maxHeartbeats 0
namespace Mine
inductive AnQ (b : List UInt8) (σ : Store) (v : V) (σ' : Store) : Prop
  | mk (h : match readAll b with | .error j => v = .tup [.tup [], .tup [.int 0, .int j]] | .ok fs => v = .tup [.tup (told fs), .bytes (writeB fs).toArray]) (e : Ex [] σ σ')
def Agree (b : List UInt8) : Prop := match walkAll b with
  | .error j => readAll b = .error j
  | .ok l => ∃ fs, readAll b = .ok fs ∧ told fs = l.map wV ∧ writeB fs = b ∧ WFs fs ∧ WrGood fs
section
variable {C : Cx} {g : Gh} {σ σ' : Store} {s : Shared} {n : Nat} {env : Env} {ε : Loc} {A : Around} {Q : V → Store → Prop} {X : AX → Store → Prop} {QS : Fl → Loc → Store → Prop}
theorem answer_spec (O : L1 C) {b : List UInt8} (hb : b.length ≤ 1900) (hw : ∀ fs, readAll b = .ok fs → WFs fs ∧ WrGood fs) : CALL C (n + 15) (.ref 294) [.bytes b.toArray] σ (AnQ b σ) X := by
  refine CALL_def (names := ["octets"]) O.ok (O.k (f := fun K => K.lookup 294) (by k_is)) (O.k (f := fun K => codeIn K _ _) (by k_is)) ?_ (by decide) (by decide) ?_
  · exact all1 fun _ => rfl
  intro L
  refine TS_cons (TS_TryAs (c := 60) (X₀ := RdX σ b) O.ok rfl (excIn60 O) ?_ (fun ε σ' => gl O ⟨rfl, rfl⟩) (fun ax σ' ⟨_, _, z⟩ => z.1) rfl rfl rfl (fun ε ax σ' x z hx => ?_))
  · refine TS_cons (TS_Assign (gc O (TL_cons (EV_local rfl (TL_nil ((read_spec (n := n) O hb).mono ?_ fun _ _ z => z))))))
    rintro r σ₁ ⟨x, D, fs, rfl, hr, sh, hx, hD, e1⟩
    obtain ⟨wf, wg⟩ := hw fs hr
    refine SN_local (TS_nil ?_)
    show TS _ _ _ _ (execs (_ :: _) _) _ _ _
    obtain ⟨d, es, ep, m1, m2, m3, m4⟩ := id sh
    refine TS_cons (TS_Return (EV_Tuple (TL_cons (EV_Method (EV_local rfl (sh_meth (f := 134) O m1 m2 (CW_nil (Kp_K O.ok (O.k (f := fun K => keepIn K _) (by k_is))) (OPL_call ((told_spec (n := n + 7) O sh wf).mono ?_ fun _ _ z => z)))))))))
    rintro r σ₂ ⟨rfl, e2⟩
    refine TL_cons (gc O (TL_cons (EV_local rfl (TL_nil ((write_spec (n := n + 2) (P := fun _ => True) O (sh.ex0 e2) wf trivial).mono ?_ fun ax σ' z => absurd wg z.1)))))
    rintro r σ₃ ⟨_, rfl, e3⟩
    refine TL_nil ⟨by simp, ?_, (e1.trans e2).trans e3⟩
    rw [hr]
  · obtain ⟨j, hj, hc, ⟨w, at_, hd, rfl⟩, e1⟩ := z
    have hne : ax.d ≠ x := fun q => by rw [q, hx] at hd; cases hd
    refine TS_cons (TS_Return (EV_Tuple (TL_cons (EV_Tuple (TL_nil ⟨by simp, TL_cons (EV_Attr (EV_local rfl (attr_exc O.ok (upd_self _ _ _) (by rw [upd_ne _ _ hne]; exact hd) (y := .tup [.int 0, .int j]) rfl rfl (O.k (f := fun K => findIn K (.ref 60) _) (by k_is)) (O.k (f := fun K => findIn K (.ref 60) _) (by k_is)) (O.k (f := fun K => hasDictIn K 60) (by k_is)) (O.k (f := fun K => findIn K (.ref 60) _) (by k_is)) (O.k (f := fun K => noGet K _) (by k_is)) (O.k (f := fun K => subIn K (.ref 60) _) (by k_is)) (TL_nil ⟨by simp, ⟨_, rfl⟩, ?_, e1.trans (Ex.new hx)⟩))))⟩)))))
    rw [hj]
end
end Mine
end
section
open PySem PySem.W PyProof.Rows PySem.Calls PySem.Spec
set_option Elab.async false
set_option maxRecDepth 100000
set_option maxHeartbeats 0
namespace Mine
theorem wV_eqs (x : WFile) : (wV x).eqs = true := by
  obtain ⟨p, k, rs⟩ := x
  have : ∀ rs : List (Nat × List UInt8), V.eqss (rs.map (rowVG (isRel k))) = true := by
    intro rs
    induction rs with
    | nil => rfl
    | cons a l ih =>
      have ha : (rowVG (isRel k) a).eqs = true := by unfold rowVG; split <;> rfl
      rw [List.map_cons, V.eqss, ha, ih]; rfl
  show (true && (true && (V.eqss (rs.map (rowVG (isRel k))) && true))) = true
  rw [this]; rfl
theorem wV_depth (x : WFile) : (wV x).depth ≤ 4 := by
  obtain ⟨p, k, rs⟩ := x
  have : ∀ rs : List (Nat × List UInt8), V.depths (rs.map (rowVG (isRel k))) ≤ 2 := by
    intro rs
    induction rs with
    | nil => exact Nat.zero_le _
    | cons a l ih =>
      have ha : (rowVG (isRel k) a).depth ≤ 2 := by unfold rowVG; split <;> simp [V.depth, V.depths]
      rw [List.map_cons]; simp only [V.depths]; omega
  have h := this rs
  simp only [wV, V.depth, V.depths]; omega
theorem wVs (l : List WFile) : V.eqss (l.map wV) = true ∧ V.depths (l.map wV) ≤ 4 := by
  induction l with
  | nil => exact ⟨rfl, by decide⟩
  | cons a l ih =>
    refine ⟨?_, ?_⟩
    · rw [List.map_cons, V.eqss, wV_eqs, ih.1]; rfl
    · have := wV_depth a; have h2 := ih.2; rw [List.map_cons]; simp only [V.depths]; omega
section
variable {C : Cx} {g : Gh} {σ σ' : Store} {s : Shared} {n : Nat} {env : Env} {ε : Loc} {A : Around} {Q : V → Store → Prop} {X : AX → Store → Prop} {QS : Fl → Loc → Store → Prop}
theorem right_spec (O : L1 C) {b : List UInt8} (hb : b.length ≤ 1900) (ha : Agree b) : CALL C (n + 16) (.ref 301) [.bytes b.toArray] σ (fun r σ' => r = .bool true ∧ Ex [] σ σ') X := by
  refine CALL_def (names := ["octets"]) O.ok (O.k (f := fun K => K.lookup 301) (by k_is)) (O.k (f := fun K => codeIn K _ _) (by k_is)) ?_ (by decide) (by decide) ?_
  · exact all1 fun _ => rfl
  intro L
  refine TS_cons (TS_AssignTuple (gc O (TL_cons (EV_local rfl (TL_nil ((walked_spec (n := n + 3) O (by omega)).mono ?_ fun _ _ z => z))))))
  rintro r σ₁ ⟨hv, e1⟩
  unfold Agree at ha
  cases hwk : walkAll b with
  | error j =>
    rw [hwk] at hv ha
    have hv : r = .tup [.tup [], .int j] := hv
    have ha : readAll b = .error j := ha
    subst hv
    refine TA_Tuple rfl rfl (TA_Name (SN_local (TA_Name (SN_local ?_))))
    show TS _ _ _ _ (execs (_ :: _) _) _ _ _
    refine TS_cons (TS_If (TT_Compare (EV_local rfl (EV_int (ge_ii ⟨_, rfl, ?_⟩)))))
    rw [if_pos (by simp)]
    refine TS_cons (TS_Return (EV_Compare (gc O (TL_cons (EV_local rfl (TL_nil ((answer_spec (n := n) O hb (fun fs h => by rw [ha] at h; cases h)).mono ?_ fun _ _ z => z)))))))
    rintro r σ₂ ⟨hv, e2⟩
    rw [ha] at hv
    have hv : r = .tup [.tup [], .tup [.int 0, .int j]] := hv
    subst hv
    refine EV_Tuple (TL_cons (EV_Tuple (TL_nil ⟨by simp, TL_cons (EV_Tuple (TL_cons (EV_int (TL_cons (EV_local rfl (TL_nil ⟨by simp, TL_nil ⟨by simp, ?_⟩⟩))))))⟩)))
    exact eq_tt rfl (by simp [V.depth, V.depths]) ⟨rfl, e1.trans e2⟩
  | ok l =>
    rw [hwk] at hv ha
    have hv : r = .tup [.tup (l.map wV), .int (-1)] := hv
    obtain ⟨fs, hr, ht, hwr, wf, wg⟩ := ha
    subst hv
    refine TA_Tuple rfl rfl (TA_Name (SN_local (TA_Name (SN_local ?_))))
    show TS _ _ _ _ (execs (_ :: _) _) _ _ _
    refine TS_cons (TS_If (TT_Compare (EV_local rfl (EV_int (ge_ii ⟨_, rfl, ?_⟩)))))
    rw [if_neg (by simp)]
    refine TS_nil ?_
    show TS _ _ _ _ (execs (_ :: _) _) _ _ _
    refine TS_cons (TS_Return (EV_Compare (gc O (TL_cons (EV_local rfl (TL_nil ((answer_spec (n := n) O hb (fun fs' h => by rw [hr] at h; cases h; exact ⟨wf, wg⟩)).mono ?_ fun _ _ z => z)))))))
    rintro r σ₂ ⟨hv, e2⟩
    rw [hr] at hv
    have hv : r = .tup [.tup (told fs), .bytes (writeB fs).toArray] := hv
    rw [ht, hwr] at hv
    subst hv
    refine EV_Tuple (TL_cons (EV_local rfl (TL_cons (EV_local rfl (TL_nil ⟨by simp, ?_⟩)))))
    obtain ⟨h1, h2⟩ := wVs l
    exact eq_tt (by show (V.eqss (l.map wV) && (true && true)) = true; rw [h1]; rfl) (by simp only [V.depths, V.depth]; omega) ⟨rfl, e1.trans e2⟩
end
end Mine
end
section
open PySem PySem.W PyProof.Rows PySem.Calls PySem.Spec
set_option Elab.async false
set_option maxRecDepth 100000
namespace Mine
section
variable {C : Cx} {n : Nat} {env : Env}
theorem CmpW_acc {α : Type} {target elt : Expr} {Inv : Store → Prop} {QL : List V → Store → Prop} (J : Nat → List V → Store → Prop) (hJ : ∀ i acc σ, J i acc σ → Inv σ) (f : α → V) (all : List α)
    (h : ∀ i x, all[i]? = some x → ∀ acc ε σ, J i acc σ → TA C n env ε (assign target env) (f x) σ (fun ε₁ σ₁ => EV C n env ε₁ elt σ₁ (fun y σ₃ => J (i + 1) (acc ++ [y]) σ₃) XF) XF)
    (fin : ∀ acc σ, J all.length acc σ → QL acc σ) : ∀ (r : List α) (i : Nat) (acc : List V) (ε : Loc) (σ : Store), r = all.drop i → i ≤ all.length → J i acc σ → CmpW C n env target elt [] Inv QL acc (r.map f) ε σ
  | [], i, acc, ε, σ, e, hi, j => by
    have hl : i = all.length := by
      have := congrArg List.length e
      simp at this; omega
    subst hl; exact fin acc σ j
  | x :: r, i, acc, ε, σ, e, hi, j => by
    have hlt : i < all.length := by
      have := congrArg List.length e
      simp at this; omega
    have hx : all[i]? = some x := by rw [← List.head?_drop, ← e]; rfl
    refine TA.mono (h i x hx acc ε σ j) (fun ε₁ σ₁ h₁ => TT_tests_nil ?_) fun _ _ z => z
    refine TV.mono h₁ (fun y σ₃ j' => ?_) fun _ _ z => z
    exact ⟨hJ _ _ _ j', CmpW_acc J hJ f all h fin r (i + 1) _ _ _ (by rw [← List.tail_drop, ← e]; rfl) hlt j'⟩
end
end Mine
end
section
open PySem PySem.W PyProof.Rows PySem.Calls PySem.Spec
set_option Elab.async false
set_option maxRecDepth 100000
set_option maxHeartbeats 0
namespace Mine
theorem seqIndex_nat {j k : Nat} (h : j < k) : seqIndex? (j : Int) k = some j := by
  unfold seqIndex?
  simp
  omega
theorem oct_at : ∀ {l : List Int} {j : Nat}, (∀ x ∈ l, 0 ≤ x ∧ x < 256) → j < l.length → ∃ x : Int, (l.map V.int)[j]? = some (.int x) ∧ 0 ≤ x ∧ x < 256 := by
  intro l j h hj
  exact ⟨l[j], by rw [List.getElem?_map, List.getElem?_eq_getElem hj]; rfl, h _ (List.getElem_mem hj)⟩
inductive FlQ (Lp : Addr) (T : Nat → Store → Prop) (k d m : Nat) (σ : Store) (r : V) (σ' : Store) : Prop
  | mk (F : Array UInt8) (k' : Nat) (h1 : r = .bytes F) (h2 : F.size ≤ m) (h3 : T k' σ') (h4 : k' ≤ k + d) (h5 : Ex [Lp] σ σ')
inductive FiI (Lp : Addr) (T : Nat → Store → Prop) (k : Nat) (kd : Int) (σ0 : Store) (t : Nat) (ε : Loc) (σ' : Store) : Prop
  | mk (F : Array UInt8) (nu k' : Nat) (q1 : ε.lookup ("found" : Str) = some (.bytes F)) (q2 : F.size ≤ 8 + t * 8) (q3 : ε.lookup ("number" : Str) = some (.int nu)) (q4 : nu ≤ 2 * t) (q5 : ε.lookup ("kind" : Str) = some (.int kd)) (q6 : T k' σ') (q7 : k' ≤ k + 2 + t * 4) (q8 : Ex [Lp] σ0 σ')
inductive FoI (Lp : Addr) (T : Nat → Store → Prop) (k : Nat) (σ0 : Store) (i : Nat) (acc : List V) (σ' : Store) : Prop
  | mk (ns : List Int) (d1 : acc = ns.map V.int) (d2 : ns.length = i) (d3 : ∀ m ∈ ns, 0 ≤ m ∧ m < 256) (k' : Nat) (d4 : T k' σ') (d5 : k' ≤ k + i) (d6 : Ex [Lp] σ0 σ')
section
variable {C : Cx} {σ : Store} {n : Nat} {env : Env} {ε : Loc} {Q : V → Store → Prop} {X : AX → Store → Prop} {QS : Fl → Loc → Store → Prop}
theorem tk_call {f Lp : Addr} {Dl : List Addr} {T : Nat → Store → Prop} (tk : Taker C f Lp Dl T) {fe : Expr} {i : Int} {kk : Nat} {p1 pos : Pos} (m : Nat) {k : Nat} (t : T k σ) (hk : k < 450) (he : EV C (n + 6) env ε fe σ (fun x σ₁ => x = .obj f ∧ σ₁ = σ) X)
    (h : ∀ (j : Nat) σ', j < m → T (k + 1) σ' → Ex [Lp] σ σ' → Q (.int j) σ') (hm : 0 < m := by decide) (hi : i = (m : Int) := by rfl)
    (he1 : eval (.Call fe [.Constant (.int i) kk p1] [] pos) env = (do callWith pos (← eval fe env) [] (backTo pos (starEach [.Constant (.int i) kk p1] env)) []) := by rfl) : EV C (n + 6) env ε (.Call fe [.Constant (.int i) kk p1] [] pos) σ Q X := by
  refine EV_Call (TV.mono he (fun x σ₁ ⟨e1, e2⟩ => ?_) fun _ _ z => z) he1
  subst e1 e2
  refine ⟨_, one_obj _, CW_cons (TL_cons (EV_int (TL_nil ⟨tk.kp t, OPL_call ?_⟩)))⟩
  rw [hi]
  exact tk.call t hm hk h
theorem tk_callE {f Lp : Addr} {Dl : List Addr} {T : Nat → Store → Prop} (tk : Taker C f Lp Dl T) {fe a : Expr} {pos : Pos} (m : Nat) {k : Nat} (t : T k σ) (hk : k < 450) (hm : 0 < m) (he : EV C (n + 6) env ε fe σ (fun x σ₁ => x = .obj f ∧ σ₁ = σ) X)
    (ha : EV C (n + 6) env ε a σ (fun x σ₁ => x = .int m ∧ σ₁ = σ) X)
    (h : ∀ (j : Nat) σ', j < m → T (k + 1) σ' → Ex [Lp] σ σ' → Q (.int j) σ')
    (he1 : eval (.Call fe [a] [] pos) env = (do callWith pos (← eval fe env) [] (backTo pos (starEach [a] env)) []) := by rfl) (he2 : starEach [a] env = (false, eval a env) :: starEach [] env := by rfl) (hp : (backTo pos (starEach [] env)).any (·.1) = false := by rfl) : EV C (n + 6) env ε (.Call fe [a] [] pos) σ Q X := by
  refine EV_Call (TV.mono he (fun x σ₁ ⟨e1, e2⟩ => ?_) fun _ _ z => z) he1
  subst e1 e2
  refine ⟨_, one_obj _, CW_cons (TL_cons (TV.mono ha (fun y σ₂ ⟨e1, e2⟩ => ?_) fun _ _ z => z) he2) he2 hp⟩
  subst e1 e2
  exact TL_nil ⟨tk.kp t, OPL_call (tk.call t hm hk h)⟩
theorem file_spec (O : L1 C) {f Lp : Addr} {Dl : List Addr} {T : Nat → Store → Prop} (tk : Taker C f Lp Dl T) {k : Nat} (t : T k σ) (hk : k + 14 < 450) {p : Array UInt8} (hp : p.size ≤ 2) :
    CALL C (n + 8) (.ref 306) [.obj f, .bytes p] σ (FlQ Lp T k 14 40 σ) X := by
  refine CALL_cells (names := ["take", "path"]) O.ok (O.k (f := fun K => K.lookup 306) (by k_is)) (O.k (f := fun K => codeIn K _ _) (by k_is)) ?_ (by decide) (by walk_at "hk") (by decide) (by decide) ?_
  · exact all2 fun _ _ => rfl
  intro L hL
  show TS C (n + 7) _ [("path", .bytes p)] _ (upd σ (L + 1) (.cell (some (.obj f)))) _ _
  have a1 : σ (L + 1) = none := hL _ (Nat.le_add_right L 1)
  have hs0 : Ex [] σ (upd σ (L + 1) (.cell (some (.obj f)))) := Ex.new a1
  have c1 : (upd σ (L + 1) (.cell (some (.obj f)))) (L + 1) = some (.cell (some (.obj f))) := upd_self _ _ _
  generalize upd σ (L + 1) (.cell (some (.obj f))) = σ0 at hs0 c1 ⊢
  have t0 := tk.ex t hs0
  have l1 : L + 1 ∉ [Lp] := fun q => tk.has t (by rw [← List.mem_singleton.mp q]; exact a1)
  clear hL
  refine TS_cons (TS_Assign (EV_Sub (EV_Tuple (TL_cons (EV_int (TL_cons (EV_int (TL_cons (EV_int (TL_nil ⟨by simp, tk_call tk 3 t0 (by omega) (EV_cell rfl c1 ⟨rfl, rfl⟩) fun j1 σ₁ hj1 t1 e1 => ?_⟩))))))))))
  obtain ⟨kd, hkd, hk0, hk1⟩ := oct_at (l := [83, 82, 73]) (j := j1) (by simp) hj1
  refine sub_tup (j := j1) (seqIndex_nat hj1) hkd (SN_local ?_)
  show TS _ _ _ _ (execs (_ :: _) _) _ _ _
  refine TS_cons (TS_Assign (EV_BinOp (bc O (TL_cons (EV_List (TL_cons (EV_local rfl (TL_cons (bc O (TL_cons (EV_local rfl (TL_nil (len_b (by omega) (TL_nil ⟨by simp, fun la hla => TL_nil (bytes_ints (n := n + 6) (ns := [kd, ((p.size : Nat) : Int)]) (upd_self _ _ _) ?_ (by simp) (EV_local rfl (add_bb ?_ (SN_local ?_))))⟩))))))))))))))
  · intro x hx; simp at hx; rcases hx with rfl | rfl <;> omega
  · simp [byteList]; omega
  have hF0 : (byteList [kd, ((p.size : Nat) : Int)] ++ p).size ≤ 4 := by simp [byteList]; omega
  generalize byteList [kd, ((p.size : Nat) : Int)] ++ p = F0 at hF0
  have e2 : Ex [Lp] σ0 (upd σ₁ la (.list [.int kd, .int ((p.size : Nat) : Int)])) := e1.trans (Ex.new hla)
  have t2 := tk.ex t1 (Ex.new (o := .list [.int kd, .int ((p.size : Nat) : Int)]) hla)
  generalize upd σ₁ la (.list [.int kd, .int ((p.size : Nat) : Int)]) = σ₂ at e2 t2 ⊢
  show TS _ _ _ _ (execs (_ :: _) _) _ _ _
  refine TS_cons (TS_AssignSwap (names := ["many", "number"]) (EV_Tuple (TL_cons (tk_call tk 4 t2 (by omega) (EV_cell rfl (e2 _ _ c1 l1) ⟨rfl, rfl⟩) fun j2 σ₃ hj2 t3 e3 => TL_cons (EV_int (TL_nil ⟨by simp, _, rfl, rfl, TA_bind (SN_local (TA_bind (SN_local ?_)))⟩))))))
  show TS _ _ _ _ (execs (_ :: _) _) _ _ _
  refine TS_cons (TS_Assign (EV_BinOp (EV_local rfl (bc O (TL_cons (EV_List (TL_cons (EV_int (TL_cons (EV_int (TL_cons (EV_int (TL_cons (EV_local rfl (TL_nil ⟨by simp, fun lb hlb => TL_nil (bytes_ints (n := n + 6) (ns := [0, 0, 0, (j2 : Int)]) (upd_self _ _ _) ?_ (by simp) (add_bb ?_ (SN_local ?_)))⟩)))))))))))))))
  · intro x hx; simp at hx; rcases hx with rfl | rfl <;> omega
  · simp [byteList]; omega
  have hF1 : (F0 ++ byteList [0, 0, 0, (j2 : Int)]).size ≤ 8 := by simp [byteList]; omega
  generalize F0 ++ byteList [0, 0, 0, (j2 : Int)] = F1 at hF1
  have e4 : Ex [Lp] σ0 (upd σ₃ lb (.list [.int 0, .int 0, .int 0, .int (j2 : Int)])) := (e2.trans e3).trans (Ex.new hlb)
  have t4 := tk.ex t3 (Ex.new (o := .list [.int 0, .int 0, .int 0, .int (j2 : Int)]) hlb)
  generalize upd σ₃ lb (.list [.int 0, .int 0, .int 0, .int (j2 : Int)]) = σ₄ at e4 t4 ⊢
  show TS _ _ _ _ (execs (_ :: _) _) _ _ _
  refine TS_cons (TS_For_it rfl (IT_range (bl O ⟨rfl, rfl⟩) (TL_cons (EV_local rfl (TL_nil ⟨0, _, 1, j2, .inl ⟨rfl, rfl, rfl⟩, small_nat (by omega), size_nat _, ?_⟩)))))
  rw [upto_map]
  refine ForW_each (FiI Lp T k kd σ0) _ (List.range j2) (fun i x hx ε σ' ⟨F, nu, k', q1, q2, q3, q4, q5, q6, q7, q8⟩ => ?_) (fun ε σ' ⟨F, nu, k', q1, q2, q3, q4, q5, q6, q7, q8⟩ => ?_) ⟨F1, 0, k + 1 + 1, rfl, by omega, rfl, by omega, rfl, t4, by omega, e4⟩
  · have hij : i < j2 := by simpa using (List.getElem?_eq_some_iff.mp hx).1
    refine TA_Name (SN_local (TS_cons (TS_Assign (EV_BinOp (EV_BinOp (EV_local q3 (EV_int (add_ii (tk_call tk 2 q6 (by omega) (EV_cell rfl (q8 _ _ c1 l1) ⟨rfl, rfl⟩) fun ja σa hja ta ea => add_ii (SN_local ?_))))))))))
    show TS _ _ _ _ (execs (_ :: _) _) _ _ _
    have ea' := q8.trans ea
    refine TS_cons (TS_Assign (bc O (TL_cons (EV_ListComp (IT_range (bl O ⟨rfl, rfl⟩) (TL_cons (tk_call tk 3 ta (by omega) (EV_cell rfl (ea' _ _ c1 l1) ⟨rfl, rfl⟩) fun jb σb hjb tb eb => TL_nil ⟨0, _, 1, jb, .inl ⟨rfl, rfl, rfl⟩, small_nat (by omega), size_nat _, ?_⟩)))))))
    rw [upto_map]
    have eb' := ea'.trans eb
    refine ⟨by simp; omega, fun Cl => CmpW_acc (FoI Lp T (k' + 1 + 1) σ0) (fun _ _ _ _ => trivial) _ (List.range jb) (fun i' x' hx' acc' ε' σ'' ⟨ns, d1, d2, d3, k'', d4, d5, d6⟩ => ?_) (fun acc' σ'' ⟨ns, d1, d2, d3, k'', d4, d5, d6⟩ => ?_) _ 0 _ _ _ rfl (Nat.zero_le _) ⟨[], rfl, rfl, by simp, k' + 1 + 1, tb, by omega, eb'⟩⟩
    · have hij' : i' < jb := by simpa using (List.getElem?_eq_some_iff.mp hx').1
      refine TA_Name (SN_local (tk_call tk 256 d4 (by omega) (EV_cell rfl (d6 _ _ c1 l1) ⟨rfl, rfl⟩) fun j3 σ₃ hj3 t3 e3 => ?_))
      refine ⟨ns ++ [(j3 : Int)], by rw [d1, List.map_append]; rfl, by simp [d2], fun m hm => ?_, k'' + 1, t3, by omega, d6.trans e3⟩
      rcases List.mem_append.mp hm with hm | hm
      · exact d3 m hm
      · rw [List.mem_singleton] at hm; subst hm; omega
    · rw [List.length_range] at d2 d5
      intro D hD
      rw [d1]
      refine TL_nil (bytes_ints (n := n + 6) (upd_self _ _ _) d3 (by omega) (SN_local ?_))
      have hB : (byteList ns).size ≤ 2 := by simp [byteList]; omega
      generalize byteList ns = B at hB
      have ec : Ex [Lp] σ0 (upd σ'' D (.list (ns.map V.int))) := d6.trans (Ex.new hD)
      have tc := tk.ex d4 (Ex.new (o := .list (ns.map V.int)) hD)
      generalize upd σ'' D (.list (ns.map V.int)) = σc at ec tc ⊢
      show TS _ _ _ _ (execs (_ :: _) _) _ _ _
      have hnu : ((nu : Int) + 1 + (ja : Int)) = ((nu + 1 + ja : Nat) : Int) := by omega
      rw [hnu]
      refine TS_cons (TS_Assign (EV_BinOp (EV_BinOp (EV_BinOp (EV_local q1 (TV.mono (Q := fun v σd => ∃ G : Array UInt8, v = .bytes G ∧ G.size ≤ 4 ∧ Ex [] σc σd) ?_ (fun v σd z => ?_) fun _ _ z => z))))))
      · refine EV_IfExp (TT_Compare (EV_local q5 (EV_int (eq_ii ⟨_, rfl, ?_⟩))))
        by_cases h82 : (kd == 82) = true
        · rw [if_pos h82]
          refine bc O (TL_cons (EV_List (TL_cons (EV_int (TL_cons (EV_int (TL_cons (EV_int (TL_cons (EV_local rfl (TL_nil ⟨by simp, fun ld hld => TL_nil (bytes_ints (n := n + 6) (ns := [0, 0, 0, ((nu + 1 + ja : Nat) : Int)]) (upd_self _ _ _) ?_ (by simp) ⟨_, rfl, by simp [byteList], Ex.new hld⟩)⟩)))))))))))
          intro x hx; simp at hx; rcases hx with rfl | rfl <;> omega
        · rw [if_neg h82]
          exact EV_bytes ⟨_, rfl, by simp, Ex.refl⟩
      obtain ⟨G, rfl, hG, ed⟩ := z
      refine add_bb (by omega) (bc O (TL_cons (EV_List (TL_cons (EV_int (TL_cons (bc O (TL_cons (EV_local rfl (TL_nil (len_b (by omega) (TL_nil ⟨by simp, fun le hle => TL_nil (bytes_ints (n := n + 6) (ns := [0, ((B.size : Nat) : Int)]) (upd_self _ _ _) ?_ (by simp) (add_bb ?_ (EV_local rfl (add_bb ?_ (SN_local ?_)))))⟩))))))))))))
      · intro x hx; simp at hx; rcases hx with rfl | rfl <;> omega
      · simp [byteList]; omega
      · simp [byteList]; omega
      refine TS_nil ⟨trivial, _, nu + 1 + ja, k'', rfl, ?_, rfl, by omega, q5, tk.ex (tk.ex tc ed) (Ex.new hle), by omega, (ec.trans (ed.mono (by simp))).trans (Ex.new hle)⟩
      simp [byteList]; omega
  · show TS _ _ _ _ (execs (_ :: _) _) _ _ _
    rw [List.length_range] at q2 q7
    exact TS_cons (TS_Return (EV_local q1 ⟨F, k', rfl, by omega, q6, by omega, (hs0.mono (by simp)).trans q8⟩))
end
end Mine
end
section
open PySem PySem.W PyProof.Rows PySem.Calls PySem.Spec
set_option Elab.async false
set_option maxRecDepth 100000
set_option maxHeartbeats 0
namespace Mine
theorem cut_len {α : Type} (l : List α) (lo hi : Option Int) : (cut l lo hi).length ≤ l.length := by
  unfold cut; rw [List.length_take, List.length_drop]; omega
inductive DrI (Lp : Addr) (T : Nat → Store → Prop) (k : Nat) (σ0 : Store) (t : Nat) (ε : Loc) (σ' : Store) : Prop
  | mk (F : Array UInt8) (q1 : ε.lookup ("octets" : Str) = some (.bytes F)) (q2 : F.size ≤ t * 40) (k' : Nat) (q3 : T k' σ') (q4 : k' ≤ k + 2 + t * 14) (q5 : Ex [Lp] σ0 σ')
def paths4 : List (Array UInt8) := [#[], #[97], #[97, 98], #[126]]
section
variable {C : Cx} {σ : Store} {n : Nat} {env : Env} {ε : Loc} {Q : V → Store → Prop} {X : AX → Store → Prop} {QS : Fl → Loc → Store → Prop}
theorem drawn_spec (O : L1 C) {f Lp : Addr} {Dl : List Addr} {T : Nat → Store → Prop} (tk : Taker C f Lp Dl T) {k : Nat} (t : T k σ) (hk : k + 100 < 450) :
    CALL C (n + 10) (.ref 311) [.obj f] σ (FlQ Lp T k 90 200 σ) X := by
  refine CALL_cells (names := ["take"]) O.ok (O.k (f := fun K => K.lookup 311) (by k_is)) (O.k (f := fun K => codeIn K _ _) (by k_is)) ?_ (by decide) (by walk_at "hk") (by decide) (by decide) ?_
  · exact all1 fun _ => rfl
  intro L hL
  show TS C (n + 9) _ [] _ (upd σ (L + 1) (.cell (some (.obj f)))) _ _
  have a1 : σ (L + 1) = none := hL _ (Nat.le_add_right L 1)
  have hs0 : Ex [] σ (upd σ (L + 1) (.cell (some (.obj f)))) := Ex.new a1
  have c1 : (upd σ (L + 1) (.cell (some (.obj f)))) (L + 1) = some (.cell (some (.obj f))) := upd_self _ _ _
  generalize upd σ (L + 1) (.cell (some (.obj f))) = σ0 at hs0 c1 ⊢
  have t0 := tk.ex t hs0
  have l1 : L + 1 ∉ [Lp] := fun q => tk.has t (by rw [← List.mem_singleton.mp q]; exact a1)
  clear hL
  refine TS_cons (TS_Assign (EV_bytes (SN_local ?_)))
  show TS _ _ _ _ (execs (_ :: _) _) _ _ _
  refine TS_cons ?_
  refine TS_For_it rfl (IT_val ?_)
  refine EV_Cut (EV_Tuple (TL_cons (EV_bytes (TL_cons (EV_bytes (TL_cons (EV_bytes (TL_cons (EV_bytes (TL_nil ⟨by simp, ?_⟩))))))))))
  refine tk_call tk 3 t0 (by omega) (EV_cell rfl c1 ⟨rfl, rfl⟩) ?_
  intro j1 σ₁ hj1 t1 e1
  refine ⟨_, rfl, EV_BinOp (EV_int ?_)⟩
  refine tk_call tk 4 t1 (by omega) (EV_cell rfl (e1 _ _ c1 l1) ⟨rfl, rfl⟩) ?_
  intro j2 σ₂ hj2 t2 e2
  refine add_ii ⟨_, rfl, ?_⟩
  rw [show ((1 : Int) + (j2 : Int)) = ((1 + j2 : Nat) : Int) from by omega]
  refine cut_tup (by simp; omega) (by simp; omega) (by simp) ?_
  refine ⟨_, _, goes_tup, ?_⟩
  show ForW _ _ _ _ _ _ _ _ (((paths4.map V.bytes).drop j1).take (1 + j2 - j1)) _ _
  rw [← List.map_drop, ← List.map_take]
  have hsub : ∀ x ∈ (paths4.drop j1).take (1 + j2 - j1), x.size ≤ 2 := fun x hx => by
    have h4 : ∀ x ∈ paths4, x.size ≤ 2 := by decide
    exact h4 x (List.mem_of_mem_drop (List.mem_of_mem_take hx))
  have hln : ((paths4.drop j1).take (1 + j2 - j1)).length ≤ 4 := by
    rw [List.length_take, List.length_drop]; have : paths4.length = 4 := rfl; omega
  generalize (paths4.drop j1).take (1 + j2 - j1) = ps at hsub hln
  refine ForW_each (DrI Lp T k σ0) _ ps (fun i x hx ε σ' ⟨F, q1, q2, k', q3, q4, q5⟩ => ?_) (fun ε σ' ⟨F, q1, q2, k', q3, q4, q5⟩ => ?_) ⟨#[], rfl, by simp, k + 1 + 1, t2, by omega, e1.trans e2⟩
  · have hi : i < ps.length := (List.getElem?_eq_some_iff.mp hx).1
    have hx2 := hsub x (List.mem_of_getElem? hx)
    refine TA_Name (SN_local (TS_cons (TS_Assign (EV_BinOp (EV_local q1 (gc O (TL_cons (EV_cell rfl (q5 _ _ c1 l1) (TL_cons (EV_local rfl (TL_nil ((file_spec (n := n + 1) O tk q3 (by omega) hx2).mono ?_ fun _ _ z => z))))))))))))
    rintro r σ₃ ⟨G, k'', rfl, hG, t3, hk3, e3⟩
    refine add_bb (by omega) (SN_local (TS_nil ⟨trivial, F ++ G, rfl, ?_, k'', t3, by omega, q5.trans e3⟩))
    rw [Array.size_append]; omega
  have hF : F.size ≤ 160 := by omega
  have hk' : k' ≤ k + 58 := by omega
  clear q2 q4 hln hsub e1 e2 t1 t2 t0
  show TS _ _ _ _ (execs (_ :: _) _) _ _ _
  refine TS_cons ?_
  refine TS_AssignSwap (names := ["way", "at", "octet"]) (EV_Tuple (TL_cons ?_))
  refine tk_call tk 6 q3 (by omega) (EV_cell rfl (q5 _ _ c1 l1) ⟨rfl, rfl⟩) ?_
  intro jw σw hjw tw ew
  have fw := q5.trans ew
  refine TL_cons ?_
  refine tk_callE tk (F.size + 1) tw (by omega) (by omega) (EV_cell rfl (fw _ _ c1 l1) ⟨rfl, rfl⟩) (EV_BinOp (bc O (TL_cons (EV_local q1 (TL_nil (len_b (by omega) (EV_int (add_ii ⟨rfl, rfl⟩)))))))) ?_
  intro ja σa hja ta ea
  have fa := fw.trans ea
  refine TL_cons ?_
  refine EV_Sub (EV_Tuple (TL_cons ?_))
  refine tk_call tk 256 ta (by omega) (EV_cell rfl (fa _ _ c1 l1) ⟨rfl, rfl⟩) ?_
  intro jo σo hjo to_ eo
  have fo := fa.trans eo
  refine TL_cons ?_
  refine EV_Sub (EV_Tuple (TL_cons (EV_int (TL_cons (EV_int (TL_cons (EV_int (TL_cons (EV_int (TL_cons (EV_int (TL_nil ⟨by simp, ?_⟩))))))))))))
  refine tk_call tk 5 to_ (by omega) (EV_cell rfl (fo _ _ c1 l1) ⟨rfl, rfl⟩) ?_
  intro j5 σ5 hj5 t5 e5
  have f5 := fo.trans e5
  obtain ⟨x5, hx5, h50, h51⟩ := oct_at (l := [83, 82, 73, 0, 1]) (j := j5) (by simp) hj5
  refine sub_tup (j := j5) (seqIndex_nat hj5) hx5 ?_
  refine TL_nil ⟨by simp, ?_⟩
  refine tk_call tk 2 t5 (by omega) (EV_cell rfl (f5 _ _ c1 l1) ⟨rfl, rfl⟩) ?_
  intro jz σz hjz tz ez
  have fz := f5.trans ez
  obtain ⟨oc, hoc, ho0, ho1⟩ := oct_at (l := [(jo : Int), x5]) (j := jz) (by intro y hy; simp at hy; rcases hy with rfl | rfl <;> omega) hjz
  refine sub_tup (j := jz) (seqIndex_nat hjz) hoc ?_
  refine TL_nil ⟨by simp, _, rfl, rfl, TA_bind (SN_local (TA_bind (SN_local (TA_bind (SN_local ?_)))))⟩
  have hkz : k' + 1 + 1 + 1 + 1 + 1 ≤ k + 63 := by omega
  generalize k' + 1 + 1 + 1 + 1 + 1 = kz at tz hkz
  clear fw fa fo f5 ew ea eo e5 ez tw ta to_ t5 hx5 hoc h50 h51 q3 hk' q5
  have ret : ∀ {G : Array UInt8} {σr : Store}, G.size ≤ 161 → Ex [] σz σr → FlQ Lp T k 90 200 σ (.bytes G) σr := fun {G σr} hG e =>
    ⟨G, kz, rfl, by omega, tk.ex tz e, by omega, (hs0.mono (by simp)).trans (fz.trans (e.mono (by simp)))⟩
  have hoct : (byteList [oc]).size = 1 := rfl
  have hcl : ∀ (lo hi : Option Int), (cut F.toList lo hi).toArray.size ≤ 160 := fun lo hi => by
    have := cut_len F.toList lo hi; rw [List.size_toArray]; simp at this; omega
  have hcin : ∀ y ∈ [oc], 0 ≤ y ∧ y < 256 := by intro y hy; rw [List.mem_singleton] at hy; subst hy; exact ⟨ho0, ho1⟩
  have hpre : (cut F.toList none (some (ja : Int))).toArray.size + (cut F.toList (some (ja : Int)) none).toArray.size ≤ 160 ∧ (cut F.toList none (some (ja : Int))).toArray.size + (cut F.toList (some ((ja : Int) + 1)) none).toArray.size ≤ 160 := by
    have h1 : clipAt F.toList.length (ja : Int) = ja := clip_nat (by simp; omega)
    unfold cut
    simp only [List.size_toArray, List.length_take, List.length_drop, Option.elim_some, Option.elim_none, h1]
    have h2 := clipAt_cast F.toList.length ((ja : Int) + 1)
    rw [if_neg (by omega)] at h2
    simp only [Array.length_toList] at *
    omega
  show TS _ _ _ _ (execs (_ :: _) _) _ _ _
  refine TS_cons (TS_If (TT_Compare (EV_local rfl (EV_int (eq_ii ⟨_, rfl, ?_⟩)))))
  by_cases w1 : ((jw : Int) == 1) = true
  · rw [if_pos w1]
    refine TS_cons (TS_Return (EV_BinOp (EV_BinOp (EV_Cut (EV_local q1 ?_)))))
    refine EV_local rfl ⟨_, rfl, cut_bytes (by omega) ?_⟩
    refine bc O (TL_cons (EV_List (TL_cons (EV_local rfl (TL_nil ⟨by simp, fun lz hlz => TL_nil (bytes_ints (n := n + 8) (ns := [oc]) (upd_self _ _ _) hcin (by simp) (add_bb (by rw [hoct]; have := hcl none (some (ja : Int)); omega) ?_))⟩)))))
    refine EV_Cut (EV_local q1 (EV_BinOp (EV_local rfl (EV_int (add_ii ⟨_, rfl, cut_bytes (by omega) (add_bb ?_ (ret ?_ (Ex.new hlz)))⟩)))))
    · rw [Array.size_append, hoct]; omega
    · rw [Array.size_append, Array.size_append, hoct]; omega
  rw [if_neg w1]
  refine TS_nil ?_
  show TS _ _ _ _ (execs (_ :: _) _) _ _ _
  refine TS_cons (TS_If (TT_Compare (EV_local rfl (EV_int (eq_ii ⟨_, rfl, ?_⟩)))))
  by_cases w2 : ((jw : Int) == 2) = true
  · rw [if_pos w2]
    refine TS_cons (TS_Return (EV_BinOp (EV_Cut (EV_local q1 ?_))))
    refine EV_local rfl ⟨_, rfl, cut_bytes (by omega) ?_⟩
    refine EV_Cut (EV_local q1 (EV_BinOp (EV_local rfl (EV_int (add_ii ⟨_, rfl, cut_bytes (by omega) (add_bb (by omega) (ret ?_ Ex.refl))⟩)))))
    rw [Array.size_append]; omega
  rw [if_neg w2]
  refine TS_nil ?_
  show TS _ _ _ _ (execs (_ :: _) _) _ _ _
  refine TS_cons (TS_If (TT_Compare (EV_local rfl (EV_int (eq_ii ⟨_, rfl, ?_⟩)))))
  by_cases w3 : ((jw : Int) == 3) = true
  · rw [if_pos w3]
    refine TS_cons (TS_Return (EV_BinOp (EV_BinOp (EV_Cut (EV_local q1 ?_)))))
    refine EV_local rfl ⟨_, rfl, cut_bytes (by omega) ?_⟩
    refine bc O (TL_cons (EV_List (TL_cons (EV_local rfl (TL_nil ⟨by simp, fun lz hlz => TL_nil (bytes_ints (n := n + 8) (ns := [oc]) (upd_self _ _ _) hcin (by simp) (add_bb (by rw [hoct]; have := hcl none (some (ja : Int)); omega) ?_))⟩)))))
    refine EV_Cut (EV_local q1 ?_)
    refine EV_local rfl ⟨_, rfl, cut_bytes (by omega) (add_bb ?_ (ret ?_ (Ex.new hlz)))⟩
    · rw [Array.size_append, hoct]; omega
    · rw [Array.size_append, Array.size_append, hoct]; omega
  rw [if_neg w3]
  refine TS_nil ?_
  show TS _ _ _ _ (execs (_ :: _) _) _ _ _
  refine TS_cons (TS_If (TT_Compare (EV_local rfl (EV_int (eq_ii ⟨_, rfl, ?_⟩)))))
  by_cases w4 : ((jw : Int) == 4) = true
  · rw [if_pos w4]
    refine TS_cons (TS_Return (EV_Cut (EV_local q1 ?_)))
    exact EV_local rfl ⟨_, rfl, cut_bytes (by omega) (ret (by have := hcl none (some (ja : Int)); omega) Ex.refl)⟩
  rw [if_neg w4]
  refine TS_nil ?_
  show TS _ _ _ _ (execs (_ :: _) _) _ _ _
  refine TS_cons (TS_If (TT_Compare (EV_local rfl (EV_int (eq_ii ⟨_, rfl, ?_⟩)))))
  by_cases w5 : ((jw : Int) == 5) = true
  · rw [if_pos w5]
    refine TS_cons (TS_Return (bc O (TL_cons (EV_ListComp (IT_range (bl O ⟨rfl, rfl⟩) (TL_cons (tk_call tk 20 tz (by omega) (EV_cell rfl (fz _ _ c1 l1) ⟨rfl, rfl⟩) fun jb σb hjb tb eb => TL_nil ⟨0, _, 1, jb, .inl ⟨rfl, rfl, rfl⟩, small_nat (by omega), size_nat _, ?_⟩)))))))
    rw [upto_map]
    refine ⟨by simp; omega, fun Cl => CmpW_acc (FoI Lp T (kz + 1) σ0) (fun _ _ _ _ => trivial) _ (List.range jb) (fun i' x' hx' acc' ε' σ'' ⟨ns, d1, d2, d3, k'', d4, d5, d6⟩ => ?_) (fun acc' σ'' ⟨ns, d1, d2, d3, k'', d4, d5, d6⟩ => ?_) _ 0 _ _ _ rfl (Nat.zero_le _) ⟨[], rfl, rfl, by simp, kz + 1, tb, by omega, fz.trans eb⟩⟩
    · have hij' : i' < jb := by simpa using (List.getElem?_eq_some_iff.mp hx').1
      refine TA_Name (SN_local ?_)
      refine EV_Sub (EV_Tuple (TL_cons (EV_int (TL_cons (EV_int (TL_cons (EV_int (TL_cons (EV_int (TL_cons (EV_int (TL_cons (EV_int (TL_cons (EV_int (TL_cons (EV_int (TL_nil ⟨by simp, ?_⟩))))))))))))))))))
      refine tk_call tk 8 d4 (by omega) (EV_cell rfl (d6 _ _ c1 l1) ⟨rfl, rfl⟩) ?_
      intro j3 σ₃ hj3 t3 e3
      obtain ⟨x8, hx8, h80, h81⟩ := oct_at (l := [83, 82, 73, 0, 1, 2, 97, 98]) (j := j3) (by simp) hj3
      refine sub_tup (j := j3) (seqIndex_nat hj3) hx8 ?_
      refine ⟨ns ++ [x8], by rw [d1, List.map_append]; rfl, by simp [d2], fun m hm => ?_, k'' + 1, t3, by omega, d6.trans e3⟩
      rcases List.mem_append.mp hm with hm | hm
      · exact d3 m hm
      · rw [List.mem_singleton] at hm; subst hm; exact ⟨h80, h81⟩
    · rw [List.length_range] at d2 d5
      intro D hD
      rw [d1]
      refine TL_nil (bytes_ints (n := n + 8) (upd_self _ _ _) d3 (by omega) ?_)
      exact ⟨_, k'', rfl, by simp [byteList]; omega, tk.ex d4 (Ex.new hD), by omega, (hs0.mono (by simp)).trans (d6.trans (Ex.new hD))⟩
  rw [if_neg w5]
  refine TS_nil ?_
  show TS _ _ _ _ (execs (_ :: _) _) _ _ _
  exact TS_cons (TS_Return (EV_local q1 (ret (by omega) Ex.refl)))
end
end Mine
end
section
open PySem PySem.W PyProof.Rows PySem.Calls PySem.Spec
set_option Elab.async false
set_option maxRecDepth 100000
namespace Mine
section
variable {K β : Type} [DecidableEq K]
theorem stB_new {es : List (K × β)} {k : K} {x : β} (h : k ∉ es.map (·.1)) : stB es k x = es ++ [(k, x)] := by
  unfold stB
  rw [if_neg]
  intro q
  obtain ⟨e, he, q⟩ := List.any_eq_true.mp q
  exact h (by rw [← of_decide_eq_true q]; exact List.mem_map_of_mem he)
theorem fold_pairs : ∀ (rs : List (K × β)) (acc : List (K × β)), ((acc ++ rs).map (·.1)).Nodup → rs.foldl (fun es r => stB es r.1 r.2) acc = acc ++ rs
  | [], acc, _ => by simp
  | r :: rs, acc, h => by
    have hk : r.1 ∉ acc.map (·.1) := fun q => by
      rw [List.map_append] at h
      have := (List.nodup_append.mp h).2.2 r.1 q r.1 (.head _)
      exact this rfl
    rw [List.foldl_cons, stB_new hk, fold_pairs rs _ (by rw [List.append_assoc]; exact h), List.append_assoc]
    rfl
theorem vlB_nodup : ∀ {es : List (K × β)} {k : K} {x : β}, (es.map (·.1)).Nodup → (k, x) ∈ es → vlB es k = some x
  | [], _, _, _, h => by cases h
  | e :: es, k, x, hn, h => by
    rw [List.map_cons, List.nodup_cons] at hn
    unfold vlB
    rw [List.find?_cons]
    rcases List.mem_cons.mp h with rfl | h
    · simp
    · have hne : e.1 ≠ k := fun q => hn.1 (by rw [q]; exact List.mem_map_of_mem (f := (·.1)) h)
      have := vlB_nodup hn.2 h
      unfold vlB at this
      simp only [hne, decide_false]
      exact this
end
theorem asc_nodup {l : List Int} (h : l.Pairwise (· < ·)) : l.Nodup := h.imp fun q => by omega
theorem relOf_asc {rows : List (Int × Array UInt8)} (h : (rows.map (·.1)).Pairwise (· < ·)) : relOf rows = rows := by
  unfold relOf
  exact (fold_pairs rows [] (by simpa using asc_nodup h)).trans (by simp)
theorem relRows_asc {rows : List (Int × Array UInt8)} (h : (rows.map (·.1)).Pairwise (· < ·)) : relRows rows = rows := by
  have e : sortI (rows.map (·.1)) = rows.map (·.1) := (sortI_of (.refl _) (h.imp fun q => by omega)).symm
  unfold relRows
  rw [e, List.map_map]
  conv => rhs; rw [← List.map_id rows]
  apply List.map_congr_left
  intro r hr
  have := vlB_nodup (asc_nodup h) (show (r.1, r.2) ∈ rows from hr)
  simp only [Function.comp_apply, this]
  rfl
theorem num_go : ∀ (xs : List UInt8) (a : Nat), xs.foldl (fun a o => a * 256 + o.toNat) a = a * 256 ^ xs.length + num xs
  | [], a => by simp [num]
  | x :: xs, a => by
    have e : num (x :: xs) = x.toNat * 256 ^ xs.length + num xs := by
      show List.foldl _ (0 * 256 + x.toNat) xs = _
      rw [num_go xs]; simp
    rw [List.foldl_cons, num_go xs, e, List.length_cons, Nat.pow_succ, Nat.add_mul, Nat.mul_assoc a, Nat.mul_comm 256, Nat.add_assoc]
theorem num_cons (x : UInt8) (xs : List UInt8) : num (x :: xs) = x.toNat * 256 ^ xs.length + num xs := by
  show List.foldl _ (0 * 256 + x.toNat) xs = _
  rw [num_go xs]; simp
theorem be_mod : ∀ (k a c : Nat), be k (a * 256 ^ k + c) = be k c
  | 0, _, _ => rfl
  | k + 1, a, c => by
    have e : a * 256 ^ (k + 1) + c = (a * 256) * 256 ^ k + c := by rw [Nat.pow_succ, Nat.mul_comm (256 ^ k), ← Nat.mul_assoc]
    rw [e, be, be, be_mod k (a * 256) c]
    have : ((a * 256) * 256 ^ k + c) / 256 ^ k % 256 = c / 256 ^ k % 256 := by
      rw [Nat.add_comm, Nat.add_mul_div_right _ _ (Nat.pow_pos (by decide)), Nat.add_mul_mod_self_right]
    rw [this]
theorem be_num : ∀ xs : List UInt8, be xs.length (num xs) = xs
  | [] => rfl
  | x :: xs => by
    rw [List.length_cons, be, num_cons, be_mod, be_num xs]
    have h1 := num_lt xs
    have : (x.toNat * 256 ^ xs.length + num xs) / 256 ^ xs.length % 256 = x.toNat := by
      rw [Nat.add_comm, Nat.add_mul_div_right _ _ (Nat.pow_pos (by decide)), Nat.div_eq_of_lt h1, Nat.zero_add]
      exact Nat.mod_eq_of_lt x.toNat_lt
    rw [this]
    congr 1
    exact UInt8.ofNat_toNat
def Took (b : List UInt8) (i i' : Nat) (xs : List UInt8) : Prop := i' = i + xs.length ∧ i' ≤ b.length ∧ b.take i' = b.take i ++ xs
theorem Took.trans {b xs ys : List UInt8} {i j k : Nat} (h : Took b i j xs) (h' : Took b j k ys) : Took b i k (xs ++ ys) := by
  obtain ⟨a1, a2, a3⟩ := h; obtain ⟨b1, b2, b3⟩ := h'
  exact ⟨by rw [List.length_append]; omega, b2, by rw [b3, a3, List.append_assoc]⟩
theorem take_took {b xs : List UInt8} {i m i' : Nat} (h : takeP b i m = .ok (xs, i')) : Took b i i' xs ∧ xs.length = m := by
  obtain ⟨a1, a2, a3, a4⟩ := takeP_ok h
  refine ⟨⟨by omega, by omega, ?_⟩, a4⟩
  rw [a1, a2, List.take_add]
theorem count_took {b : List UInt8} {i w k i' : Nat} (h : countP b i w = .ok (k, i')) : Took b i i' (be w k) ∧ k < 256 ^ w := by
  rw [countP_eq] at h
  obtain ⟨xs, j, h1, h2⟩ := bindP_ok h
  obtain ⟨t, hl⟩ := take_took h1
  cases h2
  have e := be_num xs
  rw [hl] at e
  rw [e]
  exact ⟨t, hl ▸ num_lt xs⟩
theorem rowB_of (xs : List UInt8) : rowB xs.toArray = be 2 xs.length ++ xs := rfl
theorem seq_took {b xs : List UInt8} {i i' : Nat} (h : seqRowP b i = .ok (xs, i')) : Took b i i' (rowB xs.toArray) := by
  obtain ⟨n, j, h1, h2⟩ := bindP_ok h
  obtain ⟨t1, _⟩ := count_took h1
  obtain ⟨t2, hl⟩ := take_took h2
  rw [rowB_of, hl]
  exact t1.trans t2
def rowO (rel : Bool) (x : Nat × List UInt8) : List UInt8 := if rel then be 4 x.1 ++ rowB x.2.toArray else rowB x.2.toArray
theorem row_took {rel : Bool} {b : List UInt8} {i lo i' : Nat} {x : Nat × List UInt8} (h : rowG rel b i lo = .ok (x, i')) : Took b i i' (rowO rel x) ∧ (rel = true → x.1 < 4294967296) := by
  cases rel with
  | true =>
    obtain ⟨k, j, h1, h2⟩ := bindP_ok (show relRowP b i lo = _ from h)
    obtain ⟨t1, hk⟩ := count_took h1
    split at h2
    · cases h2
    · obtain ⟨xs, j2, h3, h4⟩ := bindP_ok h2
      cases h4
      exact ⟨t1.trans (seq_took h3), fun _ => hk⟩
  | false =>
    obtain ⟨xs, j, h1, h2⟩ := bindP_ok (show bindP (seqRowP b i) _ = _ from h)
    cases h2
    exact ⟨seq_took h1, nofun⟩
theorem rowO_len (rel : Bool) (x : Nat × List UInt8) : (rowO rel x).length = (if rel then 6 else 2) + x.2.length := by
  unfold rowO
  cases rel <;> simp [rowB_of, be_length] <;> omega
structure Rws (rel : Bool) (lo : Nat) (rs : List (Nat × List UInt8)) : Prop where
  asc : rel = true → (lo :: rs.map (·.1)).Pairwise (· < ·)
  lt : rel = true → ∀ x ∈ rs, x.1 < 4294967296
theorem rows_took {rel : Bool} {b : List UInt8} : ∀ (n : Nat) {i lo i' : Nat} {rs : List (Nat × List UInt8)}, i ≤ b.length → rowsG rel b n i lo = .ok (rs, i') → Took b i i' (rs.flatMap (rowO rel)) ∧ rs.length = n ∧ Rws rel lo rs
  | 0, i, lo, i', rs, hi, h => by
    cases h
    exact ⟨⟨by simp, hi, by simp⟩, rfl, fun _ => by simp, fun _ => by simp⟩
  | n + 1, i, lo, i', rs, hi, h => by
    obtain ⟨x, j, h1, h2⟩ := bindP_ok h
    obtain ⟨xs, j2, h3, h4⟩ := bindP_ok h2
    cases h4
    obtain ⟨t1, l1⟩ := row_took h1
    obtain ⟨y1, y2, y3, y4⟩ := rowG_ok h1
    obtain ⟨t2, l2, r2⟩ := rows_took n y2 h3
    refine ⟨by rw [List.flatMap_cons]; exact t1.trans t2, by rw [List.length_cons, l2], fun hr => ?_, fun hr y hy => ?_⟩
    · have a := r2.asc hr
      have hlo := y3 hr
      rw [List.map_cons]
      refine List.Pairwise.cons (fun z hz => ?_) a
      rcases List.mem_cons.mp hz with rfl | hz
      · exact hlo
      · exact Nat.lt_trans hlo ((List.pairwise_cons.mp a).1 z hz)
    · rcases List.mem_cons.mp hy with rfl | hy
      · exact l1 hr
      · exact r2.lt hr y hy
theorem kind_took {b : List UInt8} {i i' : Nat} {k : Str} (h : kindP b i = .ok (k, i')) : Took b i i' [letter k] ∧ k ∈ kinds := by
  obtain ⟨hk, _, _⟩ := kindP_ok h
  obtain ⟨xs, j, h1, h2⟩ := bindP_ok h
  obtain ⟨t, hl⟩ := take_took h1
  split at h2
  · rename_i k' hk'
    cases h2
    obtain ⟨c, rfl⟩ : ∃ c, xs = [c] := by
      match xs, hl with
      | [c], _ => exact ⟨c, rfl⟩
    refine ⟨?_, hk⟩
    have : letter k = c := by
      change kindOf c = some _ at hk'
      unfold kindOf at hk'
      by_cases c1 : c = 83
      · subst c1; rw [if_pos rfl] at hk'; cases hk'; rfl
      · rw [if_neg c1] at hk'
        by_cases c2 : c = 82
        · subst c2; rw [if_pos rfl] at hk'; cases hk'; rfl
        · rw [if_neg c2] at hk'
          by_cases c3 : c = 73
          · subst c3; rw [if_pos rfl] at hk'; cases hk'; rfl
          · rw [if_neg c3] at hk'; cases hk'
    rw [this]; exact t
  · cases h2
theorem path_took {b : List UInt8} {i i' : Nat} {ahead : Option Str} {p : Str} (h : pathP b i ahead = .ok (p, i')) : Took b i i' (pathBytes p) ∧ goodPath p ∧ aheadOk ahead p = true := by
  obtain ⟨n, j, h1, h2⟩ := bindP_ok h
  obtain ⟨xs, j2, h3, h4⟩ := bindP_ok h2
  obtain ⟨t1, hn⟩ := count_took h1
  obtain ⟨t2, hl⟩ := take_took h3
  split at h4
  · cases h4
  · rename_i hg
    split at h4
    · rename_i ha
      cases h4
      have hgood : ∀ c ∈ xs, badSign c = false := List.findIdx?_eq_none_iff.mp hg
      have hsz : (strOf xs).cps.size = xs.length := by simp [strOf]
      have hb : (strOf xs).cps.toList.map (fun c => c.toUInt8) = xs := by
        unfold strOf
        simp only [List.map_map]
        conv => rhs; rw [← List.map_id xs]
        apply List.map_congr_left
        intro c _
        exact UInt8.ofNat_toNat
      refine ⟨?_, ⟨fun c hc => ?_, by rw [hsz, hl]; exact hn⟩, ha⟩
      · unfold pathBytes
        rw [hsz, hl, hb]
        exact t1.trans t2
      · simp only [strOf, List.mem_map] at hc
        obtain ⟨d, hd, rfl⟩ := hc
        have := hgood d hd
        simp [badSign] at this
        omega
    · cases h4
end Mine
end
section
open PySem PySem.W PyProof.Rows PySem.Calls PySem.Spec
set_option Elab.async false
set_option maxRecDepth 100000
namespace Mine
theorem rel_keys {rs : List (Nat × List UInt8)} (r : Rws true 0 rs) : ((relRowsOf rs).map (·.1)).Pairwise (· < ·) := by
  have a := (List.pairwise_cons.mp (r.asc rfl)).2
  unfold relRowsOf
  rw [List.map_map, List.pairwise_map]
  rw [List.pairwise_map] at a
  exact a.imp fun {x y} h => by show (x.1 : Int) < (y.1 : Int); omega
theorem tell_cont {rel : Bool} {rs : List (Nat × List UInt8)} (r : Rws rel 0 rs) : tellRows (contG rel rs) = rs.map (rowVG rel) := by
  cases rel with
  | false =>
    show (rs.map fun x => x.2.toArray).map V.bytes = _
    rw [List.map_map]; rfl
  | true =>
    show tellRows (.rel (relOf (relRowsOf rs))) = _
    rw [tellRows_rel, relOf_asc (rel_keys r), relRows_asc (rel_keys r)]
    unfold relRowsOf
    rw [List.map_map]; rfl
theorem rows_cont {rel : Bool} {rs : List (Nat × List UInt8)} (r : Rws rel 0 rs) : rowsB (contG rel rs) = rs.flatMap (rowO rel) := by
  cases rel with
  | false =>
    show (rs.map fun x => x.2.toArray).flatMap rowB = _
    rw [List.flatMap_map]; rfl
  | true =>
    show (relRows (relOf (relRowsOf rs))).flatMap (fun r => be 4 r.1.toNat ++ rowB r.2) = _
    rw [relOf_asc (rel_keys r), relRows_asc (rel_keys r)]
    unfold relRowsOf
    rw [List.flatMap_map]; rfl
def toF (x : WFile) : Str × (Str × Cont) := (x.1, (x.2.1, contG (isRel x.2.1) x.2.2))
def fileO (x : WFile) : List UInt8 := fileB x.1 (toF x).2
structure WGood (x : WFile) : Prop where
  kind : x.2.1 ∈ kinds
  path : goodPath x.1
  rws : Rws (isRel x.2.1) 0 x.2.2
theorem file_took {b : List UInt8} {i i' : Nat} {ahead : Option Str} {x : WFile} (h : fileR b i ahead = .ok (x, i')) : Took b i i' (fileO x) ∧ WGood x ∧ aheadOk ahead x.1 = true := by
  obtain ⟨k, i1, h1, h⟩ := bindP_ok h
  obtain ⟨p, i2, h2, h⟩ := bindP_ok h
  obtain ⟨n, i3, h3, h⟩ := bindP_ok h
  obtain ⟨rs, i4, h4, h⟩ := bindP_ok h
  cases h
  obtain ⟨t1, hk⟩ := kind_took h1
  obtain ⟨t2, hp, ha⟩ := path_took h2
  obtain ⟨t3, hn⟩ := count_took h3
  obtain ⟨t4, hl, hr⟩ := rows_took n t3.2.1 h4
  refine ⟨?_, ⟨hk, hp, hr⟩, ha⟩
  have e : fileO (p, k, rs) = [letter k] ++ (pathBytes p ++ (be 4 n ++ rs.flatMap (rowO (isRel k)))) := by
    show letter k :: (pathBytes p ++ (be 4 (tellRows (contG (isRel k) rs)).length ++ rowsB (contG (isRel k) rs))) = _
    rw [tell_cont hr, rows_cont hr, List.length_map, hl]; rfl
  rw [e]
  exact t1.trans (t2.trans (t3.trans t4))
theorem fileP_R (b : List UInt8) (i : Nat) (ahead : Option Str) : fileP b i ahead = bindP (fileR b i ahead) fun x i' => .ok (toF x, i') := by
  unfold fileP fileR
  simp only [bindP_assoc]
  rfl
theorem strLt_trans {a b c : Str} (h : strLt a b = true) (h' : strLt b c = true) : strLt a c = true := by
  rw [strLt_iff] at *; exact List.lt_trans h h'
theorem strLt_irrefl (a : Str) : strLt a a = false := by
  cases h : strLt a a with
  | false => rfl
  | true => rw [strLt_iff] at h; exact absurd h (List.lt_irrefl _)
theorem strLt_sle {a b : Str} (h : strLt a b = true) : sle a b = true := by
  unfold sle
  cases q : strLt b a with
  | false => rfl
  | true => have := strLt_trans h q; rw [strLt_irrefl] at this; cases this
theorem walk_read {b : List UInt8} : ∀ (f i : Nat) (ahead : Option Str) (L : List WFile), i ≤ b.length → b.take i = L.flatMap fileO → (∀ x ∈ L, WGood x) → (L.map (·.1)).Pairwise (fun a b => strLt a b = true) →
    (∀ x ∈ L, ∀ p, aheadOk ahead p = true → strLt x.1 p = true) → b.length - i < f →
    match walkR b f i ahead L with
    | .error j => readP b f i ahead (L.map toF) = .error j
    | .ok L' => readP b f i ahead (L.map toF) = .ok (L'.map toF) ∧ b = L'.flatMap fileO ∧ (∀ x ∈ L', WGood x) ∧ (L'.map (·.1)).Pairwise (fun a b => strLt a b = true)
  | 0, i, ahead, L, hi, hb, hg, ho, ha, hf => by omega
  | f + 1, i, ahead, L, hi, hb, hg, ho, ha, hf => by
    unfold walkR readP
    by_cases hlt : i < b.length
    · rw [if_pos hlt, if_pos hlt, fileP_R]
      cases hr : fileR b i ahead with
      | error j => exact rfl
      | ok r =>
        obtain ⟨x, i'⟩ := r
        obtain ⟨t, gx, ax⟩ := file_took hr
        have hx : ∀ y ∈ L, strLt y.1 x.1 = true := fun y hy => ha y hy _ ax
        have hnew : stB (L.map toF) x.1 (toF x).2 = (L ++ [x]).map toF := by
          rw [stB_new, List.map_append]; rfl
          intro q
          obtain ⟨e, he, q⟩ := List.mem_map.mp q
          obtain ⟨y, hy, rfl⟩ := List.mem_map.mp he
          have := hx y hy
          rw [show y.1 = x.1 from q, strLt_irrefl] at this; cases this
        show match walkR b f i' (some x.1) (L ++ [x]) with
          | .error j => readP b f i' (some x.1) (stB (L.map toF) x.1 (toF x).2) = .error j
          | .ok L' => readP b f i' (some x.1) (stB (L.map toF) x.1 (toF x).2) = .ok (L'.map toF) ∧ b = L'.flatMap fileO ∧ (∀ x ∈ L', WGood x) ∧ (L'.map (·.1)).Pairwise (fun a b => strLt a b = true)
        rw [hnew]
        have hlen : 0 < (fileO x).length := by show 0 < (letter _ :: _).length; simp
        refine walk_read f i' (some x.1) (L ++ [x]) t.2.1 ?_ ?_ ?_ ?_ ?_
        · rw [t.2.2, hb, List.flatMap_append]; simp
        · intro y hy
          rcases List.mem_append.mp hy with hy | hy
          · exact hg y hy
          · rw [List.mem_singleton] at hy; subst hy; exact gx
        · rw [List.map_append]
          refine List.pairwise_append.mpr ⟨ho, by simp, fun a h1 c h2 => ?_⟩
          obtain ⟨y, hy, rfl⟩ := List.mem_map.mp h1
          rw [List.map_cons, List.map_nil, List.mem_singleton] at h2
          subst h2; exact hx y hy
        · intro y hy p hp
          have hp : strLt x.1 p = true := hp
          rcases List.mem_append.mp hy with hy | hy
          · exact strLt_trans (hx y hy) hp
          · rw [List.mem_singleton] at hy; subst hy; exact hp
        · have := t.1; have := t.2.1; omega
    · rw [if_neg hlt, if_neg hlt]
      exact ⟨rfl, by rw [← hb, List.take_of_length_le (by omega)], hg, ho⟩
theorem flat_ge' {α : Type} (g : α → List UInt8) (k : Nat) : ∀ l : List α, (∀ x ∈ l, k ≤ (g x).length) → k * l.length ≤ (l.flatMap g).length
  | [], _ => by simp
  | x :: l, h => by
    have h1 := h x (.head _)
    have h2 := flat_ge' g k l fun y hy => h y (.tail _ hy)
    rw [List.flatMap_cons, List.length_append, List.length_cons, Nat.mul_add]; omega
theorem flat_mem {α : Type} (g : α → List UInt8) : ∀ {l : List α} {x : α}, x ∈ l → (g x).length ≤ (l.flatMap g).length
  | y :: l, x, h => by
    rw [List.flatMap_cons, List.length_append]
    rcases List.mem_cons.mp h with rfl | h
    · omega
    · have := flat_mem g h; omega
theorem fileO_len {x : WFile} (g : WGood x) : 6 + (x.2.2.flatMap (rowO (isRel x.2.1))).length ≤ (fileO x).length := by
  show _ ≤ (letter x.2.1 :: (pathBytes x.1 ++ (be 4 (tellRows (contG (isRel x.2.1) x.2.2)).length ++ rowsB (contG (isRel x.2.1) x.2.2)))).length
  rw [rows_cont g.rws, List.length_cons, List.length_append, List.length_append, be_length]
  unfold pathBytes
  rw [List.length_append, be_length]
  omega
theorem wf_file {x : WFile} (g : WGood x) (h : (fileO x).length ≤ 200) : WF (toF x).2 := by
  have hl := fileO_len g
  have h1 : ∀ y ∈ x.2.2, y.2.length ≤ 200 := fun y hy => by
    have a := flat_mem (rowO (isRel x.2.1)) hy
    rw [rowO_len] at a; omega
  refine ⟨g.kind, ?_⟩
  show match contG (isRel x.2.1) x.2.2 with
    | .seq rows => x.2.1 ≠ "relative" ∧ rows.length ≤ 200 ∧ ∀ b ∈ rows, b.size ≤ 200
    | .rel es => x.2.1 = "relative" ∧ es.length < 64 ∧ ∀ p ∈ es, 1 ≤ p.1 ∧ p.2.size ≤ 200
  have hge := flat_ge' (rowO (isRel x.2.1)) (if isRel x.2.1 then 6 else 2) x.2.2 fun y _ => by rw [rowO_len]; omega
  have hr := g.rws
  cases hrel : isRel x.2.1 with
  | false =>
    rw [hrel] at hge
    have hge : 2 * x.2.2.length ≤ (x.2.2.flatMap (rowO false)).length := hge
    rw [hrel] at hl
    refine ⟨fun q => ?_, by rw [List.length_map]; omega, fun b hb => ?_⟩
    · simp [isRel, q] at hrel
    · obtain ⟨y, hy, rfl⟩ := List.mem_map.mp hb
      have := h1 y hy; simpa using this
  | true =>
    rw [hrel] at hge hr hl
    have hge : 6 * x.2.2.length ≤ (x.2.2.flatMap (rowO true)).length := hge
    show x.2.1 = "relative" ∧ (relOf (relRowsOf x.2.2)).length < 64 ∧ ∀ p ∈ relOf (relRowsOf x.2.2), 1 ≤ p.1 ∧ p.2.size ≤ 200
    rw [relOf_asc (rel_keys hr)]
    refine ⟨by simpa [isRel] using hrel, by unfold relRowsOf; rw [List.length_map]; omega, fun p hp => ?_⟩
    obtain ⟨y, hy, rfl⟩ := List.mem_map.mp hp
    have a := (List.pairwise_cons.mp (hr.asc rfl)).1 y.1 (List.mem_map_of_mem hy)
    have := h1 y hy
    exact ⟨by show (1 : Int) ≤ (y.1 : Int); omega, by simpa using this⟩
theorem flat_congr {α : Type} {f g : α → List UInt8} {l : List α} (h : ∀ x ∈ l, f x = g x) : l.flatMap f = l.flatMap g := by
  rw [List.flatMap_def, List.flatMap_def, List.map_congr_left h]
theorem agree {b : List UInt8} (hb : b.length ≤ 200) : Agree b := by
  have h := walk_read (b := b) (b.length + 1) 0 none [] (Nat.zero_le _) rfl (by simp) (by simp) (by simp) (by omega)
  unfold Agree walkAll readAll
  have e0 : ([] : List WFile).map toF = [] := rfl
  rw [e0] at h
  cases hw : walkR b (b.length + 1) 0 none [] with
  | error j => rw [hw] at h; exact h
  | ok L =>
    rw [hw] at h
    obtain ⟨h1, h2, h3, h4⟩ := h
    have hnd : ((L.map toF).map (·.1)).Nodup := by
      rw [List.map_map]
      exact h4.imp fun {a c} q z => by rw [z, strLt_irrefl] at q; cases q
    have hpaths : pathsOf (L.map toF) = L.map (·.1) := by
      unfold pathsOf
      rw [List.map_map]
      exact (sortS_of (.refl _) (h4.imp strLt_sle)).symm
    have hfile : ∀ x ∈ L, fileOf (L.map toF) x.1 = (toF x).2 := fun x hx => by
      unfold fileOf
      rw [vlB_nodup hnd (show (x.1, (toF x).2) ∈ L.map toF from List.mem_map_of_mem (f := toF) hx)]; rfl
    have hlen : ∀ x ∈ L, (fileO x).length ≤ 200 := fun x hx => by
      have := flat_mem fileO hx
      rw [← h2] at this; omega
    refine ⟨L.map toF, h1, ?_, ?_, ⟨?_, ?_⟩, ?_⟩
    · unfold told
      rw [hpaths, List.map_map]
      apply List.map_congr_left
      intro x hx
      simp only [Function.comp_apply, hfile x hx]
      show V.tup [.str x.1, .str x.2.1, .tup (tellRows (contG (isRel x.2.1) x.2.2))] = _
      rw [tell_cont (h3 x hx).rws]; rfl
    · unfold writeB
      rw [hpaths, List.flatMap_map]
      conv => rhs; rw [h2]
      exact flat_congr fun x hx => by rw [hfile x hx]; rfl
    · have hall : 6 * L.length ≤ (L.flatMap fileO).length := flat_ge' fileO 6 L fun x hx => by have := fileO_len (h3 x hx); omega
      rw [← h2] at hall
      rw [List.length_map]; omega
    · intro p hp
      obtain ⟨x, hx, rfl⟩ := List.mem_map.mp hp
      exact ⟨wf_file (h3 x hx) (hlen x hx), Nat.le_of_lt (Nat.lt_trans (h3 x hx).path.2 (by decide))⟩
    · intro p hp
      rw [hpaths] at hp
      obtain ⟨x, hx, rfl⟩ := List.mem_map.mp hp
      refine ⟨(h3 x hx).path, ?_⟩
      rw [hfile x hx]
      show match contG (isRel x.2.1) x.2.2 with | .seq _ => True | .rel es => ∀ r ∈ relRows es, r.1 < 4294967296
      have hr := (h3 x hx).rws
      cases hrel : isRel x.2.1 with
      | false => trivial
      | true =>
        rw [hrel] at hr
        show ∀ r ∈ relRows (relOf (relRowsOf x.2.2)), r.1 < 4294967296
        rw [relOf_asc (rel_keys hr), relRows_asc (rel_keys hr)]
        intro r hm
        obtain ⟨y, hy, rfl⟩ := List.mem_map.mp hm
        have := hr.lt rfl y hy
        show (y.1 : Int) < 4294967296; omega
end Mine
end
section
open PySem PySem.W PyProof.Rows PySem.Calls PySem.Spec
set_option Elab.async false
set_option maxRecDepth 100000
set_option maxHeartbeats 0
namespace Mine
def written2 : List (List UInt8 × Int) := [([], -1), ([84], 0), ([83], 1), ([83, 2, 97], 3), ([83, 1, 31, 0, 0, 0, 0], 2), ([83, 2, 97, 127, 0, 0, 0, 0], 3), ([83, 1, 32, 0, 0, 0, 0, 73, 1, 126, 0, 0, 0, 0], -1),
  ([83, 1, 97, 0, 0, 0, 0, 83, 1, 97, 0, 0, 0, 0], 8), ([73, 1, 98, 0, 0, 0, 0, 83, 1, 97, 0, 0, 0, 0], 8), ([82, 0, 0, 0, 0, 2, 0, 0, 0, 1, 0, 0, 0, 0, 0, 1, 0, 0], 12), ([82, 0, 0, 0, 0, 1, 0, 0, 0, 0, 0, 0], 6)]
def wrongOf (b : List UInt8) : Int := match walkAll b with | .error j => j | .ok _ => -1
def pairV (x : List UInt8 × Int) : V := .tup [.bytes x.1.toArray, .int x.2]
theorem written_ok : ∀ x ∈ written2, x.1.length ≤ 200 ∧ wrongOf x.1 = x.2 := by
  intro x hx
  have h : written2.all (fun x => decide (x.1.length ≤ 200) && decide (wrongOf x.1 = x.2)) = true := by kernel_rfl
  have := List.all_eq_true.mp h x hx
  rw [Bool.and_eq_true] at this
  exact ⟨of_decide_eq_true this.1, of_decide_eq_true this.2⟩
section
variable {C : Cx} {σ : Store} {n : Nat} {env : Env} {ε : Loc} {Q : V → Store → Prop} {X : AX → Store → Prop} {QS : Fl → Loc → Store → Prop}
theorem rv_pair {h : Heap} {a : Addr} {x : List UInt8 × Int} {o : Obj} {t u : Tok} {k : Nat} (e : h.get? a = some o) (hc : o.cls = .type "tuple") (hd : o.data = .seq #[.bytes x.1.toArray t, .int x.2 u] k) : RV h (pairV x) (.ref a) :=
  ⟨a, [_, _], rfl, ⟨o, e, hc, k, hd⟩, ⟨_, _, rfl, ⟨t, rfl⟩, _, _, rfl, ⟨u, rfl⟩, rfl⟩⟩
theorem EV_written (O : L1 C) {pos : Pos} (h : Q (.tup (written2.map pairV)) σ) (hk : env.scope.kind = .function := by rfl) (hl : env.kindOf "_law_WRITTEN" = some .globalImplicit := by rfl) (hg : env.globals = mainGlobals := by rfl) : EV C n env ε (.Name "_law_WRITTEN" pos) σ Q X := by
  refine EV_global (y := .tup (written2.map pairV)) O.ok (O.k (f := fun K => nsIn K mainGlobals "_law_WRITTEN") (by k_is)) (fun h K => ?_) h hk hl hg
  refine ⟨_, _, rfl, ⟨_, K _ _ (O.k (f := fun K => K.lookup _) (by k_is)), rfl, _, rfl⟩, ?_⟩
  refine RVs.cons (rv_pair (K _ _ (O.k (f := fun K => K.lookup _) (by k_is))) rfl rfl) ?_
  refine RVs.cons (rv_pair (K _ _ (O.k (f := fun K => K.lookup _) (by k_is))) rfl rfl) ?_
  refine RVs.cons (rv_pair (K _ _ (O.k (f := fun K => K.lookup _) (by k_is))) rfl rfl) ?_
  refine RVs.cons (rv_pair (K _ _ (O.k (f := fun K => K.lookup _) (by k_is))) rfl rfl) ?_
  refine RVs.cons (rv_pair (K _ _ (O.k (f := fun K => K.lookup _) (by k_is))) rfl rfl) ?_
  refine RVs.cons (rv_pair (K _ _ (O.k (f := fun K => K.lookup _) (by k_is))) rfl rfl) ?_
  refine RVs.cons (rv_pair (K _ _ (O.k (f := fun K => K.lookup _) (by k_is))) rfl rfl) ?_
  refine RVs.cons (rv_pair (K _ _ (O.k (f := fun K => K.lookup _) (by k_is))) rfl rfl) ?_
  refine RVs.cons (rv_pair (K _ _ (O.k (f := fun K => K.lookup _) (by k_is))) rfl rfl) ?_
  refine RVs.cons (rv_pair (K _ _ (O.k (f := fun K => K.lookup _) (by k_is))) rfl rfl) ?_
  refine RVs.cons (rv_pair (K _ _ (O.k (f := fun K => K.lookup _) (by k_is))) rfl rfl) ?_
  exact RVs.nil
inductive W1I (f P1 : Addr) (σ1 : Store) (i : Nat) (ε : Loc) (σ' : Store) : Prop
  | mk (q1 : ε.lookup ("take" : Str) = some (.obj f)) (q2 : Ex [] σ1 σ')
inductive W2I (f Lp : Addr) (T : Nat → Store → Prop) (σ1 : Store) (i : Nat) (ε : Loc) (σ' : Store) : Prop
  | mk (q1 : ε.lookup ("take" : Str) = some (.obj f)) (k : Nat) (q2 : T k σ') (q3 : k ≤ i * 90) (q4 : Ex [Lp] σ1 σ')
theorem law_spec (O : L1 C) {sc P1 : Addr} {zs : List Int} (hs : BaseInts C sc zs) (hz : zs.length ≤ 1000) (hC1 : CodeHd C.H 262 P1) (hP1 : σ P1 = some (.raw (tabObj #[]))) :
    CALL C (n + 20) (.ref 318) [.obj sc] σ (fun r σ' => r = .bool true ∧ ∃ ps, σ' P1 = some (.raw (tabObj ps))) X := by
  refine CALL_def (names := ["script"]) O.ok (O.k (f := fun K => K.lookup 318) (by k_is)) (O.k (f := fun K => codeIn K _ _) (by k_is)) ?_ (by decide) (by decide) ?_
  · exact all1 fun _ => rfl
  intro L
  refine TS_cons ?_
  refine TS_Assign (gc O (TL_cons (EV_local rfl (TL_nil ((taker_spec (n := n + 13) (ps := #[]) O hs hz hC1 hP1).mono ?_ fun _ _ z => z)))))
  rintro r σ1 ⟨f, Lp, Dl, T, rfl, tk, t1, hDl, p1, e1⟩
  have n1 : P1 ∉ Dl := fun q => by have := hDl _ q; rw [hP1] at this; cases this
  have n1' : P1 ∉ [Lp] := fun q => n1 (by rw [List.mem_singleton.mp q]; exact tk.lp)
  clear hDl e1 hP1
  refine SN_local ?_
  show TS _ _ _ _ (execs (_ :: _) _) _ _ _
  refine TS_cons ?_
  refine TS_For rfl (EV_written O ⟨_, _, σ1, goes_tup, fun _ _ e => e, trivial, ?_⟩)
  refine ForW_each (W1I f P1 σ1) pairV written2 (fun i x hx ε σ' ⟨q1, q2⟩ => ?_) (fun ε σ' ⟨q1, q2⟩ => ?_) ⟨rfl, Ex.refl⟩
  · obtain ⟨hb, hw⟩ := written_ok x (List.mem_of_getElem? hx)
    obtain ⟨b, w⟩ := x
    have hb : b.length ≤ 200 := hb
    have hw : wrongOf b = w := hw
    refine TA_Tuple rfl rfl (TA_Name (SN_local (TA_Name (SN_local ?_))))
    refine TS_cons ?_
    refine TS_If (TT_BoolOp (TT_Or (TT_Compare ?_)))
    refine EV_Sub (gc O (TL_cons (EV_local rfl (TL_nil ((walked_spec (n := n + 7) O (by omega)).mono ?_ fun _ _ z => z)))))
    rintro r σ2 ⟨hv, e2⟩
    obtain ⟨y, hy⟩ : ∃ y, r = .tup [y, .int w] := by
      unfold wrongOf at hw
      cases hwk : walkAll b with
      | error j => rw [hwk] at hv hw; have hw : (j : Int) = w := hw; exact ⟨_, by rw [← hw]; exact hv⟩
      | ok l => rw [hwk] at hv hw; have hw : (-1 : Int) = w := hw; exact ⟨_, by rw [← hw]; exact hv⟩
    subst hy
    refine EV_int (sub_tup (j := 1) rfl rfl (EV_local rfl (ne_ii ⟨_, rfl, ?_⟩)))
    rw [if_neg (by simp)]
    refine TT_Or (TT_Not (TT_value ?_))
    refine gc O (TL_cons (EV_local rfl (TL_nil ((right_spec (n := n + 3) O (by omega) (agree hb)).mono ?_ fun _ _ z => z))))
    rintro r σ3 ⟨rfl, e3⟩
    refine OPT_bool ?_
    show TT _ _ _ _ _ _ _ _
    refine TT_Or_nil ?_
    rw [if_neg (by simp)]
    exact TS_nil (TS_nil ⟨trivial, q1, (q2.trans e2).trans e3⟩)
  have t2 := tk.ex t1 q2
  have p2 : ∃ ps, σ' P1 = some (.raw (tabObj ps)) := let ⟨ps, q⟩ := p1; ⟨ps, q2.get q⟩
  clear t1 p1
  show TS _ _ _ _ (execs (_ :: _) _) _ _ _
  refine TS_cons ?_
  refine TS_For_it rfl (IT_range (bl O ⟨rfl, rfl⟩) (TL_cons (EV_int (TL_nil ⟨0, _, 1, 2, .inl ⟨rfl, rfl, rfl⟩, small_nat (k := 2) (by decide), size_nat _, ?_⟩))))
  rw [upto_map]
  refine ForW_each (W2I f Lp T σ') _ (List.range 2) (fun i x hx ε σ'' ⟨w1, k, w2, w3, w4⟩ => ?_) (fun ε σ'' ⟨w1, k, w2, w3, w4⟩ => ?_) ⟨q1, 0, t2, by omega, Ex.refl⟩
  · have hi : i < 2 := by simpa using (List.getElem?_eq_some_iff.mp hx).1
    refine TA_Name (SN_local ?_)
    refine TS_cons ?_
    refine TS_If (TT_Not (TT_value ?_))
    refine gc O (TL_cons (gc O (TL_cons (EV_local w1 (TL_nil ((drawn_spec (n := n + 9) O tk w2 (by omega)).mono ?_ fun _ _ z => z))))))
    rintro r σ3 ⟨F, k3, rfl, hF, t3, hk3, e3⟩
    refine TL_nil ?_
    obtain ⟨b⟩ := F
    have hb : b.length ≤ 200 := hF
    refine (right_spec (n := n + 3) O (by omega) (agree hb)).mono ?_ fun _ _ z => z
    rintro r σ4 ⟨rfl, e4⟩
    refine OPT_bool ?_
    show if _ then _ else _
    rw [if_neg (by simp)]
    exact TS_nil (TS_nil ⟨trivial, w1, k3, tk.ex t3 e4, by omega, w4.trans (e3.trans (e4.mono (by simp)))⟩)
  show TS _ _ _ _ (execs (_ :: _) _) _ _ _
  refine TS_cons (TS_Return (EV_bool ⟨rfl, ?_⟩))
  obtain ⟨ps, q⟩ := p2
  exact ⟨ps, w4 _ _ q n1'⟩
end
end Mine
end
section
open PySem PySem.W PyProof.Rows PySem.Calls PySem.Spec
set_option Elab.async false
set_option maxRecDepth 100000
set_option maxHeartbeats 0
namespace Mine
theorem end_of {p : Program} {loose : List Str} {mean : ExcName → Option Value} {mg mb : Str → Option Value} {w : World} {s₁ : Shared} {fa a : Addr} {vs : List Value} {zs : List Int} {c : ClaimW} {cl : Str → Option Addr} {args : List WData}
    (KX : (hd.heap_1 w.params).In s₁.heap) (hT : TabsAt [(262, 258)] s₁.heap) (T : Top p loose mean mg mb s₁.heap) (hmg : mg "law" = some (.ref fa)) (hg : s₁.gens = #[])
    (hl : s₁.heap.IsList a vs.toArray) (hi : IntsAre vs zs) (hz : zs.length ≤ 1000) (hn : ∀ cls, c.raises args cls = false) (hp : c.post args (.bool true) args = true) :
    codeAny (model PySem.Challenge.rw_og0085_02.row.prog w) callerA (.call (.ref fa) { pos := [.ref a] })
      (fun r s' => GoodW c cl mean args { s₁ with heap := ghostOf s₁.heap [(262, 258)] } r s' ∧ GrownAll [(262, 258)] s'.heap) s₁ := by
  have hK : noTabs (hd.heap_1 w.params) = true := by kernel_rfl
  have e := mg_of (n := "law") (v := .ref 318) KX T.g (by k_is)
  rw [hmg] at e
  cases e
  obtain ⟨lo, TG⟩ : ∃ lo, Top topProg lo mean mg mb (ghostOf s₁.heap [(262, 258)]) := ⟨_, ghost_top hT T⟩
  let C : Cx := { prog := PySem.Challenge.rw_og0085_02.row.prog, w := w, KP := hd.heap_1, H := ghostOf s₁.heap [(262, 258)], p := topProg, loose := lo, mean := mean, mg := mg, mb := mb, os := s₁.os }
  have O : L1 C := ⟨⟨ghost_K hT KX hK, TG⟩, rfl⟩
  obtain ⟨c1, -⟩ : CodeAll [(262, 258)] C.H := ghost_code hT
  let σ : Store := upd (fun _ => none) 258 (.raw (tabObj #[]))
  have hσ : ∀ b o, σ b = some o → b = 258 ∧ o = .raw (tabObj #[]) := fun b o e => by
    simp only [σ, upd] at e
    split at e
    · cases e; exact ⟨‹_›, rfl⟩
    · cases e
  have S : St C (fun _ => none) σ s₁ := {
    base := fun b o e => of_hideAll _ e
    gs := fun b o e => nomatch e
    gt := fun b o e => nomatch e
    sim := fun b o e => by
      obtain ⟨rfl, rfl⟩ := hσ b o e
      exact (hT _ (.head _)).2
    gσ := fun _ _ => rfl
    hσ := fun b e => by
      cases q : σ b with
      | none => exact absurd q e
      | some o =>
        obtain ⟨rfl, -⟩ := hσ b o q
        exact hideAll_none _ (.head _)
    gh := fun b e => absurd rfl e
    gens := hg
    os := rfl }
  refine codeAny_mono (law_spec (n := 0) (σ := σ) (X := fun _ _ => False) O (sc := a) (zs := zs) ⟨vs, ghost_list hT hl, hi⟩ hz c1 (by simp [σ, upd]) callerA (fun _ => none) s₁ [.ref a] ?_ S ?_) ?_
  · exact { handled := .inl rfl, depth := by decide, units := by decide, frames := ⟨[], rfl, fun _ h => absurd h List.not_mem_nil, fun _ h => nomatch h⟩ }
  · exact .cons rv_obj .nil
  · intro r s' h
    unfold RC at h
    split at h
    · obtain ⟨x, σ', S', -, rv, rfl, p1, q1⟩ := h
      rw [show _ = Value.bool true from rv]
      refine ⟨⟨.inl ⟨.bool true, .bool true, [], rfl, hn, .bool true, hp, unshared_nil⟩, S'.base, S'.os, S'.gens⟩, ⟨p1, S'.sim _ _ q1⟩, trivial⟩
    · exact h.elim
    · obtain ⟨_, _, _, _, _, _, hf⟩ := h
      exact hf.elim
end Mine
end
section
open PySem PySem.W PyProof.Rows
set_option Elab.async false
set_option maxRecDepth 100000
set_option maxHeartbeats 0
namespace Mine
end Mine
theorem PySem.Challenge.cw_og0085_02_holds : PySem.Challenge.rw_og0085_02.Holds :=
  Mine.hd (by
  k_fill
  intro w s₀ s₁ mg mb G Y fa o pm cd doc dV kV ho hd hcd hD hmg hg args vals as hpre hlay hrd hwl hlo
  have KX := km_in_of Y
  km_tabs Y
  have X := (Ground.X G).1
  have V := (Ground.X G).2
  refine Ground.open G ?_
  intro T B D TE TW
  try (refine guard_noD D (by decide +kernel) ?_; clear D)
  km_lay T hmg ho hd cd
  wrow_args hpre hlay hrd hwl hlo
  all_goals (
    first | refine callC_kw (enter_call ?_) | refine enter_call ?_
    w_top on
    kn_posts
    refine Mine.end_of KX ‹_› T (show mg "law" = _ from hmg) hg ‹_› ‹_› ?_ (raisesW_false (by wrow_none_raised)) (by wrow_post)
    omega))
end
